import PyProof.Rows.All
import Wide.All
import OpenK.AllK
import Wide.FinOn
import PySem.Challenge.RW_og0085_01
open PySem PySem.W PyProof.Rows PySem.Calls PySem.Spec
local macro_rules | `(tactic| omega) => `(tactic| lia)
local macro_rules | `(tactic| walk_at "hk") => `(tactic| repeat' (first | exact fun _ h => absurd h List.not_mem_nil | refine List.forall_mem_cons.mpr ⟨by first | exact .inl rfl | exact .inr ⟨rfl, fun _ => rfl⟩, ?_⟩))
section
open PySem PySem.W PyProof.Rows
set_option Elab.async false
set_option maxRecDepth 100000
set_option maxHeartbeats 0
namespace Mine
def runT (tb : String → Option Builtin) (p : Program) (w : World) (n₀ : Nat) (ann : Option Value) : Nat → SharedT → Thread → Option SharedT
  | 0, _, _ => none
  | n + 1, s, t => match through t with
    | true => some s
    | false => match stepOk n₀ ann t with
      | false => none
      | true => match stepT (denote tb) p w s t with
        | some (s', t') => runT tb p w n₀ ann n s' t'
        | none => none
theorem runT_spec {tb : String → Option Builtin} {p : Program} {w : World} {n₀ : Nat} {ann : Option Value} : ∀ {n : Nat} {s s' : SharedT} {t : Thread}, runT tb p w n₀ ann n s t = some s' → topRun tb p w n₀ ann n s.abs t = some s'.abs
  | 0, _, _, _, h => by cases h
  | n + 1, s, s', t, h => by
    unfold runT at h
    unfold topRun
    cases he : through t with
    | true => rw [he] at h; cases h; rfl
    | false =>
      rw [he] at h
      cases hk : stepOk n₀ ann t with
      | false => rw [hk] at h; cases h
      | true =>
        rw [hk] at h
        cases hs : stepT (denote tb) p w s t with
        | none => rw [hs] at h; cases h
        | some r => obtain ⟨s₂, t₂⟩ := r; rw [hs] at h; rw [stepT_spec hs]; exact runT_spec h
def treeGo : List Obj → Nat → BT → BT
  | [], _, t => t
  | o :: l, i, t => treeGo l (i + 1) (t.ins i o)
theorem left_of_tree {p q : Program} {loose : List Str} {Xt : Shared → Bool} {α : Type} {Yf : Shared → α} {Ya : World → α} {N : Nat} {g0 : Bool} {H₀ : Params → Heap} {T₀ : Params → BT} {m₀ : Nat} {life : Life} {gs₀ : Array GenState} {d₀ : Drawn} {k₀ : Nat} {ann : Option Value}
    (open_ : ∀ w : World, (fencedOpening treeTable p w N).map (fun s => (s.heap, s.gens, s.drawn, s.toks)) = some (H₀ w.params, gs₀, d₀, k₀))
    (size : ∀ w : World, ((H₀ w.params).isNs mainGlobals && gs₀.size == 0, (H₀ w.params).objs.size, (H₀ w.params).nsMap mainGlobals "__annotations__") = (true, m₀, ann))
    (tree : ∀ w : World, absHeap (T₀ w.params) m₀ life = H₀ w.params)
    (run : ∀ (w : World) (os : OsState), (runT treeTable p w m₀ ann N ⟨T₀ w.params, m₀, life, gs₀, d₀, k₀, os⟩ (topStub p)).map (fun r =>
        ((staticsOk (importedModules p.main.body) (H₀ w.params) r.abs.heap && namesBound p r.abs.heap && gensDone r.abs && laidKept (H₀ w.params) r.abs.heap),
         openSeen q loose (importedModules p.main.body) Xt g0 r.abs, Yf r.abs)) = some (true, openGood q loose, Ya w)) : LeftO p q loose Xt Yf Ya N g0 := fun w => by
  obtain ⟨⟨h, gs, d, k, os⟩, e, e'⟩ := Option.map_eq_some_iff.mp (open_ w)
  obtain ⟨rfl, rfl, rfl, rfl⟩ : h = H₀ w.params ∧ gs = gs₀ ∧ d = d₀ ∧ k = k₀ := by simpa using e'
  obtain ⟨z1, z2, z3⟩ : _ ∧ _ ∧ _ := by simpa only [Prod.mk.injEq] using size w
  obtain ⟨r, hr, l⟩ := Option.map_eq_some_iff.mp (run w os)
  obtain ⟨l1, l2, l3⟩ : _ ∧ _ ∧ _ := by simpa only [Prod.mk.injEq] using l
  have hr' : topRun treeTable p w m₀ ann N ⟨H₀ w.params, gs, d, k, os⟩ (topStub p) = some r.abs := by
    have := runT_spec hr
    unfold SharedT.abs at this
    rw [tree w] at this
    exact this
  have t : topFrom treeTable p w N ⟨H₀ w.params, gs, d, k, os⟩ = some r.abs := by
    unfold topFrom
    dsimp only
    rw [z1, z2, z3, hr']
    show (match staticsOk (importedModules p.main.body) (H₀ w.params) r.abs.heap && namesBound p r.abs.heap && gensDone r.abs && laidKept (H₀ w.params) r.abs.heap with | true => _ | false => _) = _
    rw [l1]
  unfold openEnds
  rw [e]
  show (topFrom treeTable p w N _).map _ = _
  rw [t]
  exact congrArg some (Prod.ext l2 l3)
noncomputable def bootT (P : Params) : BT := treeGo (boot_heap P).objs.toList 0 .nil
theorem bootSize : ∀ w : World, ((boot_heap w.params).isNs mainGlobals && (Array.mk [] : Array GenState).size == 0, (boot_heap w.params).objs.size, (boot_heap w.params).nsMap mainGlobals "__annotations__") = (true, 11, some (.ref 6)) := fun w => by kernel_rfl
theorem bootTree : ∀ w : World, absHeap (bootT w.params) 11 {} = boot_heap w.params := fun w => by kernel_rfl
def qv : Program := view PySem.Challenge.pw_og0085_01 [0, 2, 3, 5, 6, 7, 8, 9, 10, 11, 12, 13, 15, 16, 17, 18, 19, 20, 21, 22, 23, 24, 25, 26]
local macro_rules | `(tactic| o_head $H) => `(tactic| (
   refine holds_open (q := qv) (loose := [PySem.Str.ofString "LedgerError"]) (Xt := fun s => xlAt qv [] s && recOk (RowW.records (OpenRow.toRowW (OpenLaw.row PySem.Challenge.rw_og0085_01))) s) (XP := XL qv []) (Yf := Hook.obs $H) (Ya := Hook.val $H) (YP := Hook.says $H) (N := 4044) ?hl (Hook.of $H) (Hook.keeps $H) (fun s e => xl_of s (Bool.and_eq_true_iff.mp e).1) XL.keeps (by rfl) (by rfl) (by rfl) (fun s e => recFacts_of (Bool.and_eq_true_iff.mp e).2) (by rfl) (by assumption) (by decide +kernel) ⟨rfl, rfl, rfl, rfl, rfl, by decide +kernel⟩ ?hw ?hc
   (case hl => (refine left_of_tree (T₀ := bootT) (life := {}) (boot_open (p := PySem.Challenge.pw_og0085_01) (N := 4044) (by kernel_rfl) (by decide) (fun s => by kernel_rfl)) bootSize bootTree (fun w os => ?_)
                kernel_rfl))))
local macro_rules | `(tactic| o_law) => `(tactic| refine holds_law ((congrFun PySem.W.Fast.te9446332074065402090 _).trans (by kernel_rfl)) fun said => ?_)
open_top hd for PySem.Challenge.rw_og0085_01
end Mine
end
section
open PySem PySem.W PyProof.Rows PySem.Calls PySem.Spec
set_option Elab.async false
set_option maxRecDepth 100000
namespace Mine
inductive V where
  | none
  | bool (b : Bool)
  | int (i : Int)
  | str (s : Str)
  | bytes (b : Array UInt8)
  | tup (l : List V)
  | obj (a : Addr)
  | raw (v : Value)
mutual
def RV (h : Heap) : V → Value → Prop
  | .none, v => v = .none
  | .bool b, v => v = .bool b
  | .int i, v => ∃ t, v = .int i t
  | .str s, v => ∃ t, v = .str s t
  | .bytes b, v => ∃ t, v = .bytes b t
  | .tup l, v => ∃ a vs, v = .ref a ∧ IsTup h a (List.toArray vs) ∧ RVs h l vs
  | .obj a, v => v = .ref a
  | .raw w, v => v = w
def RVs (h : Heap) : List V → List Value → Prop
  | [], vs => vs = []
  | x :: l, vs => ∃ v r, vs = v :: r ∧ RV h x v ∧ RVs h l r
end
def NT (o : Obj) : Prop := ∀ xs n, o.data = .seq xs n → o.cls ≠ .type "tuple"
def NX (o : Obj) : Prop := ∀ vs, o.data = .fields vs → ∃ n, o.cls = .type n ∧ n ≠ "traceback"
theorem NT.dict {o : Obj} {es ep} (h : o.data = .dict es ep) : NT o := fun _ _ e => by rw [h] at e; cases e
theorem NX.dict {o : Obj} {es ep} (h : o.data = .dict es ep) : NX o := fun _ e => by rw [h] at e; cases e
def TK (h h' : Heap) : Prop := ∀ a o, h.get? a = some o → o.cls = .type "tuple" → (∃ xs n, o.data = .seq xs n) → h'.get? a = some o
theorem TK.refl (h : Heap) : TK h h := fun _ _ e _ _ => e
theorem TK.trans {h₁ h₂ h₃ : Heap} (x : TK h₁ h₂) (y : TK h₂ h₃) : TK h₁ h₃ := fun a o e c d => y a o (x a o e c d) c d
theorem TK.of_keeps {h h' : Heap} (k : ∀ b o, h.get? b = some o → h'.get? b = some o) : TK h h' := fun a o e _ _ => k a o e
theorem TK.push (h : Heap) (o : Obj) : TK h (h.push o) := .of_keeps fun _ _ e => Heap.get?_push_of_some _ e
theorem TK.tup {h h' : Heap} {a : Addr} {xs : Array Value} (x : TK h h') (t : IsTup h a xs) : IsTup h' a xs :=
  let ⟨o, e, c, n, r⟩ := t; ⟨o, x a o e c ⟨_, n, r⟩, c, n, r⟩
mutual
theorem RV.mono {h h' : Heap} (k : TK h h') : ∀ (x : V) (v : Value), RV h x v → RV h' x v
  | .none, _, r => r
  | .bool _, _, r => r
  | .int _, _, r => r
  | .str _, _, r => r
  | .bytes _, _, r => r
  | .tup l, _, r => by
    obtain ⟨a, vs, rfl, t, q⟩ := r
    exact ⟨a, vs, rfl, k.tup t, RVs.mono k l vs q⟩
  | .obj _, _, r => r
  | .raw _, _, r => r
theorem RVs.mono {h h' : Heap} (k : TK h h') : ∀ (l : List V) (vs : List Value), RVs h l vs → RVs h' l vs
  | [], _, r => r
  | x :: l, _, r => by
    obtain ⟨v, r', rfl, r1, r2⟩ := r
    exact ⟨v, r', rfl, RV.mono k x v r1, RVs.mono k l r' r2⟩
end
theorem RVs.length {h : Heap} : ∀ {l : List V} {vs : List Value}, RVs h l vs → vs.length = l.length
  | [], _, r => by rw [show _ = [] from r]; rfl
  | x :: l, _, r => by obtain ⟨v, r', rfl, _, r2⟩ := r; simp [RVs.length r2]
theorem RVs.get {h : Heap} : ∀ {l : List V} {vs : List Value} {i : Nat} {x : V}, RVs h l vs → l[i]? = some x → ∃ v, vs[i]? = some v ∧ RV h x v
  | [], _, _, _, _, e => by simp at e
  | y :: l, _, 0, x, r, e => by obtain ⟨v, r', rfl, r1, _⟩ := r; simp at e; subst e; exact ⟨v, rfl, r1⟩
  | y :: l, _, i + 1, x, r, e => by obtain ⟨v, r', rfl, _, r2⟩ := r; exact RVs.get (i := i) r2 (by simpa using e)
theorem RVs.append {h : Heap} : ∀ {l l' : List V} {vs vs' : List Value}, RVs h l vs → RVs h l' vs' → RVs h (l ++ l') (vs ++ vs')
  | [], _, _, _, r, r' => by rw [show _ = [] from r]; exact r'
  | x :: l, _, _, _, r, r' => by obtain ⟨v, q, rfl, r1, r2⟩ := r; exact ⟨v, _, rfl, r1, RVs.append r2 r'⟩
theorem RVs.nil {h : Heap} : RVs h [] [] := rfl
theorem RVs.one {h : Heap} {x : V} {v : Value} (r : RV h x v) : RVs h [x] [v] := ⟨v, [], rfl, r, rfl⟩
theorem RVs.cons {h : Heap} {x : V} {v : Value} {l : List V} {vs : List Value} (r : RV h x v) (q : RVs h l vs) : RVs h (x :: l) (v :: vs) := ⟨v, vs, rfl, r, q⟩
theorem RVs.take {h : Heap} : ∀ {l : List V} {vs : List Value} (n : Nat), RVs h l vs → RVs h (l.take n) (vs.take n)
  | _, _, 0, _ => by simp [RVs]
  | [], _, n + 1, r => by rw [show _ = [] from r]; rfl
  | x :: l, _, n + 1, r => by obtain ⟨v, q, rfl, r1, r2⟩ := r; exact ⟨v, _, rfl, r1, RVs.take n r2⟩
theorem RVs.drop {h : Heap} : ∀ {l : List V} {vs : List Value} (n : Nat), RVs h l vs → RVs h (l.drop n) (vs.drop n)
  | _, _, 0, r => by simpa using r
  | [], _, n + 1, r => by rw [show _ = [] from r]; rfl
  | x :: l, _, n + 1, r => by obtain ⟨v, q, rfl, r1, r2⟩ := r; simpa using RVs.drop n r2
inductive AO where
  | list (l : List V)
  | dictS (es : List (Str × V)) (ep : Nat)
  | dictI (es : List (Int × V)) (ep : Nat)
  | inst (C d : Addr)
  | ns (fs : List (Str × V))
  | cell (v : Option V)
  | raw (o : Obj)
  | exc (C : Addr) (d : Option Addr) (fresh : Bool)
def RPairs {α : Type} (h : Heap) : List (α × V) → List (α × Value) → Prop
  | [], vs => vs = []
  | (k, x) :: l, vs => ∃ v r, vs = (k, v) :: r ∧ RV h x v ∧ RPairs h l r
def RNs (h : Heap) : List (Str × V) → List DictEntry → Prop
  | [], es => es = []
  | (k, x) :: l, es => ∃ e r t, es = e :: r ∧ e.key = .str k t ∧ RV h x e.val ∧ RNs h l r
theorem RPairs.mono {α : Type} {h h' : Heap} (k : TK h h') : ∀ {l : List (α × V)} {vs : List (α × Value)}, RPairs h l vs → RPairs h' l vs
  | [], _, r => r
  | (_, _) :: l, _, r => by obtain ⟨v, q, rfl, r1, r2⟩ := r; exact ⟨v, q, rfl, RV.mono k _ _ r1, r2.mono k⟩
theorem RNs.mono {h h' : Heap} (k : TK h h') : ∀ {l : List (Str × V)} {es : List DictEntry}, RNs h l es → RNs h' l es
  | [], _, r => r
  | (_, _) :: l, _, r => by obtain ⟨e, q, t, rfl, r0, r1, r2⟩ := r; exact ⟨e, q, t, rfl, r0, RV.mono k _ _ r1, r2.mono k⟩
def listOb (vs : List Value) (n : Nat) : Obj := { cls := .type "list", data := .seq vs.toArray n }
def PL (h : Heap) (a : Addr) (vs : List Value) : Prop := ∃ n, h.get? a = some (listOb vs n)
theorem PL.isList {h : Heap} {a : Addr} {vs : List Value} (x : PL h a vs) : h.IsList a (List.toArray vs) := let ⟨n, e⟩ := x; ⟨_, e, rfl, n, rfl⟩
theorem PL.at {h h' : Heap} {a : Addr} {vs : List Value} (x : PL h a vs) (k : ∀ o, h.get? a = some o → h'.get? a = some o) : PL h' a vs := let ⟨n, e⟩ := x; ⟨n, k _ e⟩
theorem PL.extBut {h h' : Heap} {a b : Addr} {vs : List Value} (x : PL h a vs) (hs : Heap.ExtBut b h h') (hab : a ≠ b) : PL h' a vs := let ⟨n, e⟩ := x; ⟨n, hs a _ hab e⟩
theorem PL.new (h : Heap) (vs : List Value) (n : Nat) : PL (h.push { cls := .type "list", data := .seq vs.toArray n }) h.objs.size vs := ⟨n, Heap.get?_push_size _ rfl⟩
def RO (prog : Program) (w : World) (h : Heap) (a : Addr) : AO → Prop
  | .list l => ∃ vs, PL h a vs ∧ RVs h l vs
  | .dictS es ep => (a == sysModules) = false ∧ ∃ kvs, h.DictAt (strKind prog w) a kvs ep ∧ RPairs h es kvs
  | .dictI es ep => (a == sysModules) = false ∧ ∃ kvs, h.DictAt (intKind prog w) a kvs ep ∧ RPairs h es kvs
  | .inst C d => h.get? a = some (instObj C d)
  | .ns fs => ∃ es n, h.get? a = some (dictOf es n) ∧ RNs h fs es
  | .cell v => ∃ x, h.IsCell a x ∧ match v with | some X => ∃ y, x = some y ∧ RV h X y | none => x = none
  | .raw o => h.get? a = some o
  | .exc C d fr => ∃ vs sl, h.get? a = some { cls := .ref C, dict := d, data := .fields vs, slots := sl } ∧ 1 < vs.size ∧ (fr = true → vs[1]? = some .none)
abbrev Store := Addr → Option AO
def upd (σ : Store) (a : Addr) (o : AO) : Store := fun b => if b = a then some o else σ b
@[simp] theorem upd_self (σ : Store) (a : Addr) (o : AO) : upd σ a o a = some o := by simp [upd]
theorem upd_ne (σ : Store) {a b : Addr} (o : AO) (h : b ≠ a) : upd σ a o b = σ b := by simp [upd, h]
structure Cx where
  prog : Program
  w : World
  KP : Params → Frag
  H : Heap
  p : Program
  loose : List Str
  mean : ExcName → Option Value
  mg : Str → Option Value
  mb : Str → Option Value
  os : OsState
abbrev Cx.K (C : Cx) : Frag := C.KP C.w.params
abbrev Cx.M (C : Cx) : Model := model C.prog C.w
structure Cx.Ok (C : Cx) : Prop where
  X : C.K.In C.H
  T : Top C.p C.loose C.mean C.mg C.mb C.H
abbrev Gh := Addr → Option Obj
def SE (o o' : Obj) : Prop := o' = o ∨ ((∃ es ep, o.data = .dict es ep) ∧ ∃ sl, o' = { o with slots := sl })
theorem SE.data {o o' : Obj} (x : SE o o') : o'.data = o.data := by
  rcases x with rfl | ⟨_, sl, rfl⟩ <;> rfl
theorem SE.cls {o o' : Obj} (x : SE o o') : o'.cls = o.cls := by
  rcases x with rfl | ⟨_, sl, rfl⟩ <;> rfl
theorem SE.slots {o o' : Obj} (x : SE o o') (h : ∃ es ep, o.data = .dict es ep) (sl : Array (Option Value)) : SE o { o' with slots := sl } := by
  rcases x with rfl | ⟨_, sl', rfl⟩
  · exact .inr ⟨h, sl, rfl⟩
  · exact .inr ⟨h, sl, rfl⟩
theorem SE.eq {o o' : Obj} {vs} (x : SE o o') (h : o.data = .fields vs) : o' = o := x.resolve_right fun q => by obtain ⟨⟨es, ep, q⟩, _⟩ := q; rw [h] at q; cases q
theorem SE.eqs {o o' : Obj} {vs n} (x : SE o o') (h : o.data = .seq vs n) : o' = o := x.resolve_right fun q => by obtain ⟨⟨es, ep, q⟩, _⟩ := q; rw [h] at q; cases q
structure St (C : Cx) (g : Gh) (σ : Store) (s : Shared) : Prop where
  base : ∀ b o, C.H.get? b = some o → s.heap.get? b = some o
  gs : ∀ b o, g b = some o → ∃ o', s.heap.get? b = some o' ∧ SE o o'
  gt : ∀ b o, g b = some o → NX o ∧ NT o
  sim : ∀ a o, σ a = some o → RO C.prog C.w s.heap a o
  gσ : ∀ a, σ a ≠ none → g a = none
  hσ : ∀ a, σ a ≠ none → C.H.get? a = none
  gh : ∀ a, g a ≠ none → C.H.get? a = none
  gens : s.gens = #[]
  os : s.os = C.os
theorem RO.mono_of {prog : Program} {w : World} {h h' : Heap} {a : Addr} (k : TK h h') (ka : h'.get? a = h.get? a) : ∀ {o : AO}, RO prog w h a o → RO prog w h' a o
  | .list l, ⟨vs, ⟨n, e⟩, q⟩ => ⟨vs, ⟨n, ka.trans e⟩, q.mono k⟩
  | .dictS es _, ⟨z, vs, ⟨o, es', e, r⟩, q⟩ => ⟨z, vs, ⟨o, es', ka.trans e, r⟩, q.mono k⟩
  | .dictI es _, ⟨z, vs, ⟨o, es', e, r⟩, q⟩ => ⟨z, vs, ⟨o, es', ka.trans e, r⟩, q.mono k⟩
  | .inst _ _, e => ka.trans e
  | .ns fs, ⟨es, n, e, q⟩ => ⟨es, n, ka.trans e, q.mono k⟩
  | .cell v, ⟨x, ⟨o, e, r⟩, q⟩ => ⟨x, ⟨o, ka.trans e, r⟩, by
      cases v with
      | none => exact q
      | some X => obtain ⟨y, e1, e2⟩ := q; exact ⟨y, e1, RV.mono k _ _ e2⟩⟩
  | .raw _, e => ka.trans e
  | .exc _ _ _, ⟨vs, sl, e, r⟩ => ⟨vs, sl, ka.trans e, r⟩
theorem RO.there {prog : Program} {w : World} {h : Heap} {a : Addr} {o : AO} (r : RO prog w h a o) : ∃ ob, h.get? a = some ob := by
  cases o with
  | list l => obtain ⟨_, ⟨_, e⟩, _⟩ := r; exact ⟨_, e⟩
  | dictS es ep => obtain ⟨_, _, ⟨o, _, e, _⟩, _⟩ := r; exact ⟨o, e⟩
  | dictI es ep => obtain ⟨_, _, ⟨o, _, e, _⟩, _⟩ := r; exact ⟨o, e⟩
  | inst C d => exact ⟨_, r⟩
  | ns fs => obtain ⟨_, _, e, _⟩ := r; exact ⟨_, e⟩
  | cell v => obtain ⟨_, ⟨o, e, _⟩, _⟩ := r; exact ⟨o, e⟩
  | raw o => exact ⟨_, r⟩
  | exc C d fr => obtain ⟨_, _, e, _⟩ := r; exact ⟨_, e⟩
section
variable {C : Cx} {g : Gh} {σ σ' : Store} {s s' : Shared}
theorem St.lt (S : St C g σ s) {a : Addr} {o : AO} (e : σ a = some o) : a < s.heap.objs.size := by
  obtain ⟨ob, q⟩ := (S.sim a o e).there
  exact Heap.lt_size q
theorem St.tok (S : St C g σ s) (e1 : s'.heap = s.heap) (e2 : s'.gens = s.gens) (e3 : s'.os = s.os) : St C g σ s' := by
  obtain ⟨a, b, c, d, e, f, i, j, k⟩ := S
  exact ⟨by rw [e1]; exact a, by rw [e1]; exact b, c, by rw [e1]; exact d, e, f, i, e2.trans j, e3.trans k⟩
theorem St.weaken (S : St C g σ s) (h : ∀ a o, σ' a = some o → σ a = some o) : St C g σ' s where
  base := S.base
  gs := S.gs
  gt := S.gt
  sim := fun a o e => S.sim a o (h a o e)
  gσ := fun a e => S.gσ a fun q => by
    cases r : σ' a with
    | none => exact e r
    | some o => rw [h a o r] at q; cases q
  hσ := fun a e => S.hσ a fun q => by
    cases r : σ' a with
    | none => exact e r
    | some o => rw [h a o r] at q; cases q
  gh := S.gh
  gens := S.gens
  os := S.os
theorem St.K (S : St C g σ s) (O : C.Ok) : C.K.In s.heap := O.X.keeps S.base
theorem St.top (S : St C g σ s) (O : C.Ok) : Top C.p C.loose C.mean C.mg C.mb s.heap := O.T.keeps S.base
theorem St.push (S : St C g σ s) (o : Obj) (tk : Nat) : St C g σ { s with heap := s.heap.push o, toks := tk } where
  base := fun b x e => Heap.get?_push_of_some _ (S.base b x e)
  gs := fun b x e => let ⟨o', q, z⟩ := S.gs b x e; ⟨o', Heap.get?_push_of_some _ q, z⟩
  gt := S.gt
  sim := fun a x e => by
    obtain ⟨ob, q⟩ := (S.sim a x e).there
    exact (S.sim a x e).mono_of (TK.push _ _) ((Heap.get?_push_of_some _ q).trans q.symm)
  gσ := S.gσ
  hσ := S.hσ
  gh := S.gh
  gens := S.gens
  os := S.os
theorem St.grow (S : St C g σ s) {h' : Heap} (tk : Nat) (k : ∀ b o, s.heap.get? b = some o → h'.get? b = some o) : St C g σ { s with heap := h', toks := tk } where
  base := fun b x e => k _ _ (S.base b x e)
  gs := fun b x e => let ⟨o', q, z⟩ := S.gs b x e; ⟨o', k _ _ q, z⟩
  gt := S.gt
  sim := fun a x e => by
    obtain ⟨ob, q⟩ := (S.sim a x e).there
    exact (S.sim a x e).mono_of (TK.of_keeps k) ((k _ _ q).trans q.symm)
  gσ := S.gσ
  hσ := S.hσ
  gh := S.gh
  gens := S.gens
  os := S.os
theorem St.fresh (S : St C g σ s) {a : Addr} (ha : s.heap.objs.size ≤ a) : σ a = none ∧ g a = none ∧ C.H.get? a = none := by
  refine ⟨?_, ?_, ?_⟩
  · cases q : σ a with
    | none => rfl
    | some o => exact absurd (S.lt q) (Nat.not_lt.mpr ha)
  · cases q : g a with
    | none => rfl
    | some o => obtain ⟨o', e, _⟩ := S.gs a o q; exact absurd (Heap.lt_size e) (Nat.not_lt.mpr ha)
  · cases q : C.H.get? a with
    | none => rfl
    | some o => exact absurd (Heap.lt_size (S.base a o q)) (Nat.not_lt.mpr ha)
theorem St.add (S : St C g σ s) {a : Addr} {o : AO} (hg : g a = none) (hH : C.H.get? a = none) (h : RO C.prog C.w s.heap a o) : St C g (upd σ a o) s where
  base := S.base
  gs := S.gs
  gt := S.gt
  sim := fun b x e => by
    by_cases hb : b = a
    · subst hb; rw [upd_self] at e; cases e; exact h
    · rw [upd_ne _ _ hb] at e; exact S.sim b x e
  gσ := fun b e => by
    by_cases hb : b = a
    · subst hb; exact hg
    · rw [upd_ne _ _ hb] at e; exact S.gσ b e
  hσ := fun b e => by
    by_cases hb : b = a
    · subst hb; exact hH
    · rw [upd_ne _ _ hb] at e; exact S.hσ b e
  gh := S.gh
  gens := S.gens
  os := S.os
def drop (σ : Store) (a : Addr) : Store := fun b => if b = a then none else σ b
theorem drop_ne (σ : Store) {a b : Addr} (h : b ≠ a) : drop σ a b = σ b := by simp [drop, h]
theorem St.turn (S : St C g σ s) {a : Addr} {o : Obj} {h' : Heap} (tk : Nat) (hs : Heap.SameBut a s.heap h') (hg : g a = none) (hH : C.H.get? a = none)
    (ho : s.heap.get? a = some o) (ht : NT o) : St C g (drop σ a) { s with heap := h', toks := tk } ∧ TK s.heap h' := by
  have k : TK s.heap h' := fun b x e c ⟨xs, n, d⟩ => (hs.2 b fun q => by subst q; rw [ho] at e; cases e; exact ht xs n d c).trans e
  refine ⟨⟨fun b x e => (hs.2 b fun q => by subst q; rw [hH] at e; cases e).trans (S.base b x e),
    fun b x e => let ⟨o', q, z⟩ := S.gs b x e; ⟨o', (hs.2 b fun q => by subst q; rw [hg] at e; cases e).trans q, z⟩, S.gt, fun b x e => ?_, fun b e => ?_, fun b e => ?_, S.gh, S.gens, S.os⟩, k⟩
  · by_cases hb : b = a
    · subst hb; simp [drop] at e
    · rw [drop_ne _ hb] at e; exact (S.sim b x e).mono_of k (hs.2 b hb)
  · by_cases hb : b = a
    · subst hb; simp [drop] at e
    · rw [drop_ne _ hb] at e; exact S.gσ b e
  · by_cases hb : b = a
    · subst hb; simp [drop] at e
    · rw [drop_ne _ hb] at e; exact S.hσ b e
theorem upd_drop (σ : Store) (a : Addr) (o : AO) : upd (drop σ a) a o = upd σ a o := by
  funext b; by_cases hb : b = a <;> simp [upd, drop, hb]
theorem St.set (S : St C g σ s) {a : Addr} {o : Obj} {h' : Heap} {x : AO} (tk : Nat) (hs : Heap.SameBut a s.heap h') (hg : g a = none) (hH : C.H.get? a = none)
    (ho : s.heap.get? a = some o) (ht : NT o) (hx : TK s.heap h' → RO C.prog C.w h' a x) : St C g (upd σ a x) { s with heap := h', toks := tk } ∧ TK s.heap h' := by
  obtain ⟨S', k⟩ := S.turn tk hs hg hH ho ht
  exact ⟨upd_drop σ a x ▸ S'.add hg hH (hx k), k⟩
def gadd (g : Gh) (a : Addr) (o : Obj) : Gh := fun b => if b = a then some o else g b
theorem St.ghost (S : St C g σ s) {a : Addr} {o : Obj} (hσ : σ a = none) (hH : C.H.get? a = none) (ho : s.heap.get? a = some o) (hc : NX o ∧ NT o) : St C (gadd g a o) σ s where
  base := S.base
  gs := fun b x e => by
    by_cases hb : b = a
    · subst hb; simp [gadd] at e; subst e; exact ⟨o, ho, .inl rfl⟩
    · simp [gadd, hb] at e; exact S.gs b x e
  gt := fun b x e => by
    by_cases hb : b = a
    · subst hb; simp [gadd] at e; subst e; exact hc
    · simp [gadd, hb] at e; exact S.gt b x e
  sim := S.sim
  gσ := fun b e => by
    by_cases hb : b = a
    · subst hb; exact absurd hσ e
    · simp [gadd, hb]; exact S.gσ b e
  hσ := S.hσ
  gh := fun b e => by
    by_cases hb : b = a
    · subst hb; exact hH
    · simp [gadd, hb] at e; exact S.gh b e
  gens := S.gens
  os := S.os
theorem St.ghostLess {g' : Gh} (S : St C g' σ s) (h : ∀ b o, g b = some o → g' b = some o) : St C g σ s where
  base := S.base
  gs := fun b o e => S.gs b o (h b o e)
  gt := fun b o e => S.gt b o (h b o e)
  sim := S.sim
  gσ := fun a e => by
    cases q : g a with
    | none => rfl
    | some o => have := S.gσ a e; rw [h a o q] at this; cases this
  hσ := S.hσ
  gh := fun a e => S.gh a fun q => by
    cases r : g a with
    | none => exact e r
    | some o => rw [h a o r] at q; cases q
  gens := S.gens
  os := S.os
end
end Mine
end
section
open PySem PySem.W PyProof.Rows PySem.Calls PySem.Spec
set_option Elab.async false
set_option maxRecDepth 100000
namespace Mine
abbrev Loc := List (Str × V)
inductive FrOk (C : Cx) (g : Gh) (en : Option Env) (e : Env) : Prop
  | mk (k1 : e.scope.kind ≠ .module) (F : Addr) (k2 : e.frame = some F) (k3 : C.H.get? F = none) (k4 : en.map (·.locals) = some F ∨ ∃ o, g F = some o ∧ ∃ es ep, o.data = .dict es ep)
inductive FrsOk (C : Cx) (g : Gh) (en : Option Env) (fr : Option (List Env)) : Prop
  | mk (outer : List Env) (e1 : fr = some outer) (e2 : ∀ e ∈ outer, FrOk C g en e) (e3 : ∀ env, en = some env → (env.frame = some env.locals → ∃ r, outer = env :: r) ∧ ∃ e ∈ outer, e.frame = env.frame)
structure AOk (C : Cx) (n : Nat) (g : Gh) (en : Option Env) (A : Around) : Prop where
  handled : A.handled = none ∨ n = 0
  depth : A.depth + 10 * n < 1000
  units : A.units + 100 * n < 9000
  frames : FrsOk C g en A.frames
theorem AOk.room {C : Cx} {n : Nat} {g : Gh} {L : Option Env} {A : Around} (x : AOk C n g L A) : A.depth < recursionLimit := by
  have := x.depth; show A.depth < 1000; omega
theorem AOk.urm {C : Cx} {n : Nat} {g : Gh} {L : Option Env} {A : Around} (x : AOk C n g L A) : A.units < cLine := by
  have := x.units; show A.units < 9900; omega
theorem AOk.hn {C : Cx} {n : Nat} {g : Gh} {L : Option Env} {A : Around} (x : AOk C (n + 1) g L A) : A.handled = none := x.handled.resolve_right (by omega)
theorem AOk.gadd {C : Cx} {n : Nat} {g : Gh} {L : Option Env} {A : Around} {a : Addr} {o : Obj} (x : AOk C n g L A) (h : g a = Option.none) : AOk C n (gadd g a o) L A :=
  ⟨x.handled, x.depth, x.units, let ⟨outer, e, k, z⟩ := x.frames; ⟨outer, e, fun en hen => let ⟨k1, F, k2, k3, k4⟩ := k en hen; ⟨k1, F, k2, k3, k4.imp id fun ⟨o', q, r⟩ => ⟨o', by
    have : F ≠ a := fun z => by rw [z, h] at q; cases q
    simp [Mine.gadd, this, q], r⟩⟩, z⟩⟩
structure Frm (C : Cx) (g : Gh) (env : Env) (ε : Loc) (σ : Store) (s : Shared) : Prop where
  gL : g env.locals = none
  hL : C.H.get? env.locals = none
  σL : σ env.locals = none
  ns : ∃ m, s.heap.Ns env.locals m ∧ ∀ x V, ε.lookup x = some V → ∃ v, m x = some v ∧ RV s.heap V v
structure Hd (C : Cx) (g : Gh) (env : Env) (ε : Loc) (σ : Store) (s : Shared) : Prop where
  S : St C g σ s
  F : Frm C g env ε σ s
structure AX where
  C : Addr
  d : Addr
inductive TBn (C : Cx) (σ : Store) (h : Heap) (L : Option Addr) (a : Addr) (vs : Array Value) : Prop
  | mk (T : Addr) (oT : Obj) (ts : Array Value) (h1 : vs[1]? = some (.ref T)) (h2 : T ≠ a) (h3 : C.H.get? T = none) (h4 : σ T = none) (h5 : L ≠ some T) (h6 : h.get? T = some oT) (h7 : oT.cls = .type "traceback") (h8 : oT.data = .fields ts) (h9 : 3 < ts.size)
def TB (C : Cx) (g : Gh) (σ : Store) (h : Heap) (L : Option Addr) (a : Addr) (vs : Array Value) (noted : Bool) : Prop :=
  (noted = false ∧ vs[1]? = some .none) ∨ TBn C σ h L a vs
inductive RXc (C : Cx) (g : Gh) (σ : Store) (h : Heap) (L : Option Addr) (e : Value) (x : AX) (noted : Bool) : Prop
  | mk (a : Addr) (oe : Obj) (vs : Array Value) (e1 : e = .ref a) (e2 : C.H.get? a = none) (e3 : σ a = none) (e4 : g a = none) (e5 : L ≠ some a) (e6 : h.get? a = some oe) (e7 : oe.cls = .ref x.C) (e8 : oe.dict = some x.d) (e9 : oe.data = .fields vs) (e10 : 1 < vs.size) (e11 : TB C g σ h L a vs noted)
structure RX (C : Cx) (g : Gh) (σ : Store) (h : Heap) (L : Option Addr) (e : Value) (x : AX) (noted : Bool) : Prop where
  ex : RXc C g σ h L e x noted
inductive Post (C : Cx) (g : Gh) (env : Env) (ε : Loc) (s : Shared) (Q : V → Store → Prop) (v : Value) (s' : Shared) : Prop
  | mk (x : V) (σ' : Store) (D : Hd C g env ε σ' s') (k : TK s.heap s'.heap) (r : RV s'.heap x v) (q : Q x σ')
inductive PostX (C : Cx) (g : Gh) (env : Env) (s : Shared) (X : AX → Store → Prop) (e : Value) (s' : Shared) : Prop
  | mk (ax : AX) (σ' : Store) (ε' : Loc) (b : Bool) (D : Hd C g env ε' σ' s') (k : TK s.heap s'.heap) (r : RX C g σ' s'.heap (some env.locals) e ax b) (q : X ax σ')
inductive PostC (C : Cx) (g : Gh) (s : Shared) (Q : V → Store → Prop) (v : Value) (s' : Shared) : Prop
  | mk (x : V) (σ' : Store) (S : St C g σ' s') (k : TK s.heap s'.heap) (r : RV s'.heap x v) (q : Q x σ')
inductive PostCX (C : Cx) (g : Gh) (s : Shared) (X : AX → Store → Prop) (e : Value) (s' : Shared) : Prop
  | mk (ax : AX) (σ' : Store) (b : Bool) (S : St C g σ' s') (k : TK s.heap s'.heap) (r : RX C g σ' s'.heap none e ax b) (q : X ax σ')
def RC (C : Cx) (g : Gh) (s : Shared) (Q : V → Store → Prop) (X : AX → Store → Prop) (r : Result) (s' : Shared) : Prop := match r with
  | .ok (.ret v) => PostC C g s Q v s'
  | .ok _ => False
  | .error e => PostCX C g s X e s'
inductive Fl where
  | next | brk | cont
  | ret (v : V)
def RFl (h : Heap) : Fl → Flow → Prop
  | .next, f => f = .next
  | .brk, f => f = .brk
  | .cont, f => f = .cont
  | .ret x, f => ∃ v, f = .ret v ∧ RV h x v
inductive PostS (C : Cx) (g : Gh) (env : Env) (s : Shared) (Q : Fl → Loc → Store → Prop) (f : Flow) (s' : Shared) : Prop
  | mk (x : Fl) (ε' : Loc) (σ' : Store) (D : Hd C g env ε' σ' s') (k : TK s.heap s'.heap) (r : RFl s'.heap x f) (q : Q x ε' σ')
inductive PostB (C : Cx) (g : Gh) (env : Env) (ε : Loc) (s : Shared) (Q : Bool → Store → Prop) (b : Bool) (s' : Shared) : Prop
  | mk (σ' : Store) (D : Hd C g env ε σ' s') (k : TK s.heap s'.heap) (q : Q b σ')
inductive PostL (C : Cx) (g : Gh) (env : Env) (ε : Loc) (s : Shared) (Q : List V → Store → Prop) (vs : List Value) (s' : Shared) : Prop
  | mk (xs : List V) (σ' : Store) (D : Hd C g env ε σ' s') (k : TK s.heap s'.heap) (r : RVs s'.heap xs vs) (q : Q xs σ')
inductive PostA (C : Cx) (g : Gh) (env : Env) (s : Shared) (Q : Loc → Store → Prop) (s' : Shared) : Prop
  | mk (ε' : Loc) (σ' : Store) (D : Hd C g env ε' σ' s') (k : TK s.heap s'.heap) (q : Q ε' σ')
def TV (C : Cx) (n : Nat) (env : Env) (ε : Loc) (t : Sem Value) (σ : Store) (Q : V → Store → Prop) (X : AX → Store → Prop) : Prop :=
  ∀ A g s, AOk C n g (some env) A → Hd C g env ε σ s → wpAny C.M A t (Post C g env ε s Q) (PostX C g env s X) s
abbrev EV (C : Cx) (n : Nat) (env : Env) (ε : Loc) (e : Expr) (σ : Store) (Q : V → Store → Prop) (X : AX → Store → Prop) : Prop := TV C n env ε (eval e env) σ Q X
def TT (C : Cx) (n : Nat) (env : Env) (ε : Loc) (t : Sem Bool) (σ : Store) (Q : Bool → Store → Prop) (X : AX → Store → Prop) : Prop :=
  ∀ A g s, AOk C n g (some env) A → Hd C g env ε σ s → wpAny C.M A t (PostB C g env ε s Q) (PostX C g env s X) s
def TS (C : Cx) (n : Nat) (env : Env) (ε : Loc) (t : Sem Flow) (σ : Store) (Q : Fl → Loc → Store → Prop) (X : AX → Store → Prop) : Prop :=
  ∀ A g s, AOk C n g (some env) A → Hd C g env ε σ s → wpAny C.M A t (PostS C g env s Q) (PostX C g env s X) s
def CALL (C : Cx) (n : Nat) (f : Value) (args : List V) (σ : Store) (Q : V → Store → Prop) (X : AX → Store → Prop) : Prop :=
  ∀ A g s vs, AOk C n g none A → St C g σ s → RVs s.heap args vs → codeAny C.M A (.call f ⟨vs, []⟩) (RC C g s Q X) s
section
variable {C : Cx} {g : Gh} {σ σ' : Store} {s s' : Shared} {env : Env} {ε : Loc} {n : Nat} {A : Around}
theorem Frm.tok (F : Frm C g env ε σ s) (e : s'.heap = s.heap) : Frm C g env ε σ s' := by
  obtain ⟨a, b, c, f⟩ := F
  exact ⟨a, b, c, by rw [e]; exact f⟩
theorem Hd.tok (D : Hd C g env ε σ s) (e1 : s'.heap = s.heap) (e2 : s'.gens = s.gens) (e3 : s'.os = s.os) : Hd C g env ε σ s' := ⟨D.S.tok e1 e2 e3, D.F.tok e1⟩
theorem Hd.tk (D : Hd C g env ε σ s) (t : Nat) : Hd C g env ε σ { s with toks := t } := D.tok rfl rfl rfl
theorem Frm.weaken (F : Frm C g env ε σ s) (h : ∀ a o, σ' a = some o → σ a = some o) : Frm C g env ε σ' s :=
  ⟨F.gL, F.hL, by
    cases q : σ' env.locals with
    | none => rfl
    | some o => rw [← F.σL]; exact (h _ _ q).symm, F.ns⟩
theorem Hd.weaken (D : Hd C g env ε σ s) (h : ∀ a o, σ' a = some o → σ a = some o) : Hd C g env ε σ' s := ⟨D.S.weaken h, D.F.weaken h⟩
theorem Frm.keeps {h' : Heap} (F : Frm C g env ε σ s) (k : ∀ o, s.heap.get? env.locals = some o → h'.get? env.locals = some o) (t : TK s.heap h') (e : s'.heap = h') (hσ : σ' env.locals = none) : Frm C g env ε σ' s' := by
  subst e
  obtain ⟨m, ⟨o', es, ep, q', r'⟩, z⟩ := F.ns
  exact ⟨F.gL, F.hL, hσ, m, ⟨o', es, ep, k _ q', r'⟩, fun x V hx => let ⟨v, a, b⟩ := z x V hx; ⟨v, a, RV.mono t _ _ b⟩⟩
theorem Hd.push (D : Hd C g env ε σ s) (o : Obj) (tk : Nat) : Hd C g env ε σ { s with heap := s.heap.push o, toks := tk } :=
  ⟨D.S.push o tk, D.F.keeps (h' := s.heap.push o) (fun _ e => Heap.get?_push_of_some _ e) (TK.push _ _) rfl D.F.σL⟩
theorem Hd.local_lt (D : Hd C g env ε σ s) : env.locals < s.heap.objs.size := let ⟨_, h, _⟩ := D.F.ns; h.lt
theorem Hd.fresh (D : Hd C g env ε σ s) {a : Addr} (ha : s.heap.objs.size ≤ a) : σ a = none ∧ g a = none ∧ C.H.get? a = none ∧ a ≠ env.locals :=
  let ⟨x, y, z⟩ := D.S.fresh ha; ⟨x, y, z, fun q => absurd D.local_lt (Nat.not_lt.mpr (q ▸ ha))⟩
theorem Hd.add (D : Hd C g env ε σ s) {a : Addr} {o : AO} (hg : g a = none) (hH : C.H.get? a = none) (hL : a ≠ env.locals) (h : RO C.prog C.w s.heap a o) : Hd C g env ε (upd σ a o) s :=
  ⟨D.S.add hg hH h, ⟨D.F.gL, D.F.hL, by rw [upd_ne _ _ (Ne.symm hL)]; exact D.F.σL, D.F.ns⟩⟩
theorem Hd.alloc (D : Hd C g env ε σ s) (o : Obj) (tk : Nat) {x : AO} (h : RO C.prog C.w (s.heap.push o) s.heap.objs.size x) :
    σ s.heap.objs.size = none ∧ Hd C g env ε (upd σ s.heap.objs.size x) { s with heap := s.heap.push o, toks := tk } ∧ TK s.heap (s.heap.push o) := by
  obtain ⟨f1, f2, f3, f4⟩ := D.fresh (Nat.le_refl _)
  exact ⟨f1, (D.push o tk).add f2 f3 f4 h, TK.push _ _⟩
theorem Hd.set (D : Hd C g env ε σ s) {a : Addr} {x₀ : AO} {o : Obj} {h' : Heap} {x : AO} (tk : Nat) (hx₀ : σ a = some x₀) (hs : Heap.SameBut a s.heap h')
    (ho : s.heap.get? a = some o) (ht : NT o) (hx : TK s.heap h' → RO C.prog C.w h' a x) : Hd C g env ε (upd σ a x) { s with heap := h', toks := tk } ∧ TK s.heap h' := by
  have hg : g a = none := D.S.gσ a (by rw [hx₀]; exact nofun)
  have hH : C.H.get? a = none := D.S.hσ a (by rw [hx₀]; exact nofun)
  have hL : env.locals ≠ a := fun q => by have := D.F.σL; rw [q, hx₀] at this; cases this
  obtain ⟨S', k⟩ := D.S.set tk hs hg hH ho ht hx
  exact ⟨⟨S', D.F.keeps (h' := h') (fun o e => (hs.2 _ hL).trans e) k rfl (by rw [upd_ne _ _ hL]; exact D.F.σL)⟩, k⟩
theorem Hd.other (D : Hd C g env ε σ s) {a : Addr} {o : Obj} {h' : Heap} (tk : Nat) (hx₀ : σ a = none) (hg : g a = none) (hH : C.H.get? a = none) (hL : a ≠ env.locals) (hs : Heap.SameBut a s.heap h')
    (ho : s.heap.get? a = some o) (ht : NT o) : Hd C g env ε σ { s with heap := h', toks := tk } ∧ TK s.heap h' := by
  obtain ⟨S', k⟩ := D.S.turn tk hs hg hH ho ht
  have e : drop σ a = σ := by
    funext b; by_cases hb : b = a
    · subst hb; simp [drop, hx₀]
    · simp [drop, hb]
  rw [e] at S'
  exact ⟨⟨S', D.F.keeps (h' := h') (fun o e => (hs.2 _ (Ne.symm hL)).trans e) k rfl D.F.σL⟩, k⟩
theorem Hd.store (D : Hd C g env ε σ s) {h' : Heap} {x : Str} {y : V} {v : Value} {m : Str → Option Value} (tk : Nat)
    (hm : s.heap.Ns env.locals m) (hn : h'.Ns env.locals (fun z => if z = x then some v else m z)) (hs : Heap.SameBut env.locals s.heap h') (hv : RV s.heap y v)
    (he : ∀ z V, ε.lookup z = some V → ∃ v, m z = some v ∧ RV s.heap V v) :
    Hd C g env ((x, y) :: ε) σ { s with heap := h', toks := tk } ∧ TK s.heap h' := by
  obtain ⟨o, es, ep, q, r1, _⟩ := hm
  obtain ⟨S', k⟩ := D.S.turn tk hs D.F.gL D.F.hL q (NT.dict r1)
  have e : drop σ env.locals = σ := by
    funext b; by_cases hb : b = env.locals
    · subst hb; simp [drop, D.F.σL]
    · simp [drop, hb]
  rw [e] at S'
  refine ⟨⟨S', D.F.gL, D.F.hL, D.F.σL, _, hn, fun z V hz => ?_⟩, k⟩
  rw [List.lookup_cons] at hz
  by_cases hzx : z = x
  · subst hzx
    simp at hz; subst hz
    exact ⟨v, by simp, RV.mono k _ _ hv⟩
  · have hb : (z == x) = false := by simpa using hzx
    simp only [hb] at hz
    obtain ⟨w, a, b⟩ := he z V hz
    exact ⟨w, by simp [hzx, a], RV.mono k _ _ b⟩
theorem TV.mono {t : Sem Value} {Q Q' : V → Store → Prop} {X X' : AX → Store → Prop} (h : TV C n env ε t σ Q X) (hQ : ∀ v σ, Q v σ → Q' v σ) (hX : ∀ x σ, X x σ → X' x σ) : TV C n env ε t σ Q' X' :=
  fun A g s a d => wpAny_mono (h A g s a d) (fun _ _ ⟨x, σ', p, q, r, z⟩ => ⟨x, σ', p, q, r, hQ _ _ z⟩) fun _ _ ⟨x, σ', e, b, p, q, r, z⟩ => ⟨x, σ', e, b, p, q, r, hX _ _ z⟩
theorem TS.mono {t : Sem Flow} {Q Q' : Fl → Loc → Store → Prop} {X X' : AX → Store → Prop} (h : TS C n env ε t σ Q X) (hQ : ∀ v ε σ, Q v ε σ → Q' v ε σ) (hX : ∀ x σ, X x σ → X' x σ) : TS C n env ε t σ Q' X' :=
  fun A g s a d => wpAny_mono (h A g s a d) (fun _ _ ⟨x, ε', σ', p, q, r, z⟩ => ⟨x, ε', σ', p, q, r, hQ _ _ _ z⟩) fun _ _ ⟨x, σ', e, b, p, q, r, z⟩ => ⟨x, σ', e, b, p, q, r, hX _ _ z⟩
theorem TT.mono {t : Sem Bool} {Q Q' : Bool → Store → Prop} {X X' : AX → Store → Prop} (h : TT C n env ε t σ Q X) (hQ : ∀ v σ, Q v σ → Q' v σ) (hX : ∀ x σ, X x σ → X' x σ) : TT C n env ε t σ Q' X' :=
  fun A g s a d => wpAny_mono (h A g s a d) (fun _ _ ⟨σ', p, q, z⟩ => ⟨σ', p, q, hQ _ _ z⟩) fun _ _ ⟨x, σ', e, b, p, q, r, z⟩ => ⟨x, σ', e, b, p, q, r, hX _ _ z⟩
theorem CALL.mono {f : Value} {args : List V} {Q Q' : V → Store → Prop} {X X' : AX → Store → Prop} (h : CALL C n f args σ Q X) (hQ : ∀ v σ, Q v σ → Q' v σ) (hX : ∀ x σ, X x σ → X' x σ) : CALL C n f args σ Q' X' :=
  fun A g s vs a d r => codeAny_mono (h A g s vs a d r) fun r s' z => by
    rcases r with e | (_ | _ | _ | v)
    · obtain ⟨x, σ', b, p, q, r, z⟩ := z; exact ⟨x, σ', b, p, q, r, hX _ _ z⟩
    · exact z
    · exact z
    · exact z
    · obtain ⟨x, σ', p, q, r, z⟩ := z; exact ⟨x, σ', p, q, r, hQ _ _ z⟩
theorem PostX.trans {X : AX → Store → Prop} {e : Value} {s₀ s₁ s₂ : Shared} (k : TK s₀.heap s₁.heap) (h : PostX C g env s₁ X e s₂) : PostX C g env s₀ X e s₂ :=
  let ⟨x, σ', ε', b, p, q, r, z⟩ := h; ⟨x, σ', ε', b, p, k.trans q, r, z⟩
theorem Post.trans {Q : V → Store → Prop} {v : Value} {s₀ s₁ s₂ : Shared} (k : TK s₀.heap s₁.heap) (h : Post C g env ε s₁ Q v s₂) : Post C g env ε s₀ Q v s₂ :=
  let ⟨x, σ', p, q, r, z⟩ := h; ⟨x, σ', p, k.trans q, r, z⟩
theorem PostB.trans {Q : Bool → Store → Prop} {v : Bool} {s₀ s₁ s₂ : Shared} (k : TK s₀.heap s₁.heap) (h : PostB C g env ε s₁ Q v s₂) : PostB C g env ε s₀ Q v s₂ :=
  let ⟨σ', p, q, r⟩ := h; ⟨σ', p, k.trans q, r⟩
theorem PostS.trans {Q : Fl → Loc → Store → Prop} {v : Flow} {s₀ s₁ s₂ : Shared} (k : TK s₀.heap s₁.heap) (h : PostS C g env s₁ Q v s₂) : PostS C g env s₀ Q v s₂ :=
  let ⟨x, ε', σ', p, q, r, z⟩ := h; ⟨x, ε', σ', p, k.trans q, r, z⟩
theorem TV.use {t : Sem Value} {Q : V → Store → Prop} {X : AX → Store → Prop} (h : TV C n env ε t σ Q X) (a : AOk C n g (some env) A) (D : Hd C g env ε σ s) {Q' : Value → Shared → Prop} {E' : Value → Shared → Prop}
    (k : ∀ v x σ' s', Hd C g env ε σ' s' → TK s.heap s'.heap → RV s'.heap x v → Q x σ' → Q' v s') (kx : ∀ e s', PostX C g env s X e s' → E' e s') : wpAny C.M A t Q' E' s :=
  wpAny_mono (h A g s a D) (fun v s' ⟨x, σ', p, q, r, z⟩ => k v x σ' s' p q r z) kx
theorem TS.use {t : Sem Flow} {Q : Fl → Loc → Store → Prop} {X : AX → Store → Prop} (h : TS C n env ε t σ Q X) (a : AOk C n g (some env) A) (D : Hd C g env ε σ s) {Q' : Flow → Shared → Prop} {E' : Value → Shared → Prop}
    (k : ∀ v x ε' σ' s', Hd C g env ε' σ' s' → TK s.heap s'.heap → RFl s'.heap x v → Q x ε' σ' → Q' v s') (kx : ∀ e s', PostX C g env s X e s' → E' e s') : wpAny C.M A t Q' E' s :=
  wpAny_mono (h A g s a D) (fun v s' ⟨x, ε', σ', p, q, r, z⟩ => k v x ε' σ' s' p q r z) kx
theorem TT.use {t : Sem Bool} {Q : Bool → Store → Prop} {X : AX → Store → Prop} (h : TT C n env ε t σ Q X) (a : AOk C n g (some env) A) (D : Hd C g env ε σ s) {Q' : Bool → Shared → Prop} {E' : Value → Shared → Prop}
    (k : ∀ b σ' s', Hd C g env ε σ' s' → TK s.heap s'.heap → Q b σ' → Q' b s') (kx : ∀ e s', PostX C g env s X e s' → E' e s') : wpAny C.M A t Q' E' s :=
  wpAny_mono (h A g s a D) (fun v s' ⟨σ', p, q, z⟩ => k v σ' s' p q z) kx
end
end Mine
end
section
open PySem PySem.W PyProof.Rows PySem.Calls PySem.Spec
set_option Elab.async false
set_option maxRecDepth 100000
set_option linter.unusedVariables false
namespace Mine
def OP1 (C : Cx) (n : Nat) (env : Env) (ε : Loc) (t : Value → Sem Value) (x : V) (σ : Store) (Q : V → Store → Prop) (X : AX → Store → Prop) : Prop :=
  ∀ A g s v, AOk C n g (some env) A → Hd C g env ε σ s → RV s.heap x v → wpAny C.M A (t v) (Post C g env ε s Q) (PostX C g env s X) s
def OP2 (C : Cx) (n : Nat) (env : Env) (ε : Loc) (t : Value → Value → Sem Value) (x y : V) (σ : Store) (Q : V → Store → Prop) (X : AX → Store → Prop) : Prop :=
  ∀ A g s v w, AOk C n g (some env) A → Hd C g env ε σ s → RV s.heap x v → RV s.heap y w → wpAny C.M A (t v w) (Post C g env ε s Q) (PostX C g env s X) s
def OPL (C : Cx) (n : Nat) (env : Env) (ε : Loc) (t : List Value → Sem Value) (xs : List V) (σ : Store) (Q : V → Store → Prop) (X : AX → Store → Prop) : Prop :=
  ∀ A g s vs, AOk C n g (some env) A → Hd C g env ε σ s → RVs s.heap xs vs → wpAny C.M A (t vs) (Post C g env ε s Q) (PostX C g env s X) s
def OPT (C : Cx) (n : Nat) (env : Env) (ε : Loc) (t : Value → Sem Bool) (x : V) (σ : Store) (Q : Bool → Store → Prop) (X : AX → Store → Prop) : Prop :=
  ∀ A g s v, AOk C n g (some env) A → Hd C g env ε σ s → RV s.heap x v → wpAny C.M A (t v) (PostB C g env ε s Q) (PostX C g env s X) s
def TL (C : Cx) (n : Nat) (env : Env) (ε : Loc) (t : Sem (List Value)) (σ : Store) (Q : List V → Store → Prop) (X : AX → Store → Prop) : Prop :=
  ∀ A g s, AOk C n g (some env) A → Hd C g env ε σ s → wpAny C.M A t (PostL C g env ε s Q) (PostX C g env s X) s
theorem rv_int {h : Heap} {i : Int} {t : Tok} : RV h (.int i) (.int i t) := ⟨t, rfl⟩
theorem rv_str {h : Heap} {i : Str} {t : Tok} : RV h (.str i) (.str i t) := ⟨t, rfl⟩
theorem rv_bytes {h : Heap} {i : Array UInt8} {t : Tok} : RV h (.bytes i) (.bytes i t) := ⟨t, rfl⟩
theorem rv_bool {h : Heap} {b : Bool} : RV h (.bool b) (.bool b) := rfl
theorem rv_none {h : Heap} : RV h .none .none := rfl
theorem rv_obj {h : Heap} {a : Addr} : RV h (.obj a) (.ref a) := rfl
theorem rv_raw {h : Heap} {v : Value} : RV h (.raw v) v := rfl
theorem rv_tup {h : Heap} {a : Addr} {l : List V} {vs : List Value} (t : IsTup h a vs.toArray) (r : RVs h l vs) : RV h (.tup l) (.ref a) := ⟨a, vs, rfl, t, r⟩
section
variable {C : Cx} {g : Gh} {σ σ' : Store} {s s' : Shared} {env : Env} {ε : Loc} {n : Nat} {A : Around} {Q : V → Store → Prop} {X : AX → Store → Prop} {QB : Bool → Store → Prop} {QS : Fl → Loc → Store → Prop}
theorem pp (D : Hd C g env ε σ s) {x : V} {v : Value} (r : RV s.heap x v) (q : Q x σ) : Post C g env ε s Q v s := ⟨x, σ, D, TK.refl _, r, q⟩
theorem ppt (D : Hd C g env ε σ s) {x : V} {v : Value} (t : Nat) (r : RV s.heap x v) (q : Q x σ) : Post C g env ε s Q v { s with toks := t } := ⟨x, σ, D.tk t, TK.refl _, r, q⟩
theorem pb (D : Hd C g env ε σ s) {b : Bool} (q : QB b σ) : PostB C g env ε s QB b s := ⟨σ, D, TK.refl _, q⟩
theorem EV_int {i k pos} (h : Q (.int i) σ) : EV C n env ε (.Constant (.int i) k pos) σ Q X := fun _ _ _ _ D => wpAny_Constant_int (ppt D _ rv_int h)
theorem EV_str {x k pos} (h : Q (.str x) σ) : EV C n env ε (.Constant (.str x) k pos) σ Q X := fun _ _ _ _ D => wpAny_Constant_str (ppt D _ rv_str h)
theorem EV_bytes {x k pos} (h : Q (.bytes x.toArray) σ) : EV C n env ε (.Constant (.bytes x) k pos) σ Q X := fun _ _ s _ D => by
  show wpAny _ _ (mkTextBytes x.toArray) _ _ _
  unfold mkTextBytes
  exact wpAny_bind (wpAny_fresh (wpAny_pure (ppt D _ rv_bytes h)))
theorem EV_bool {b k pos} (h : Q (.bool b) σ) : EV C n env ε (.Constant (.bool b) k pos) σ Q X := fun _ _ _ _ D => wpAny_Constant_bool (pp D rv_bool h)
theorem EV_none {k pos} (h : Q .none σ) : EV C n env ε (.Constant .none k pos) σ Q X := fun _ _ _ _ D => wpAny_Constant_none (pp D rv_none h)
theorem EV_local {x : Str} {pos : Pos} {y : V} (e : ε.lookup x = some y) (h : Q y σ) (hk : env.scope.kind = .function := by rfl) (hl : env.kindOf x = some .local := by rfl) (hd : (x == ("__debug__" : Str)) = false := by decide) :
    EV C n env ε (.Name x pos) σ Q X := fun A g s a D => by
  obtain ⟨m, hm, he⟩ := D.F.ns
  obtain ⟨v, h1, h2⟩ := he x y e
  exact wpAny_Name (wpAny_loadName_local hk hl hm h1 (pp D h2 h)) hd
theorem RO.cellAt {prog : Program} {w : World} {h : Heap} {a : Addr} {y : V} (r : RO prog w h a (.cell (some y))) : ∃ v, h.IsCell a (some v) ∧ RV h y v := by
  obtain ⟨x, e, z⟩ := r
  obtain ⟨v, rfl, z⟩ := z
  exact ⟨v, e, z⟩
theorem EV_cell {x : Str} {pos : Pos} {c : Addr} {y : V} (hc : env.cells.lookup x = some c) (e : σ c = some (.cell (some y))) (h : Q y σ) (hk : env.scope.kind = .function := by rfl) (hl : env.kindOf x = some .cell := by rfl) (hd : (x == ("__debug__" : Str)) = false := by decide) :
    EV C n env ε (.Name x pos) σ Q X := fun A g s a D => by
  obtain ⟨v, h1, h2⟩ := (D.S.sim c _ e).cellAt
  exact wpAny_Name (wpAny_loadName_cell hk hl hc h1 (pp D h2 h)) hd
theorem EV_free {x : Str} {pos : Pos} {c : Addr} {y : V} (hc : env.cells.lookup x = some c) (e : σ c = some (.cell (some y))) (h : Q y σ) (hk : env.scope.kind = .function := by rfl) (hl : env.kindOf x = some .free := by rfl) (hd : (x == ("__debug__" : Str)) = false := by decide)
    (hn : (x == ("__classdict__" : Str)) = false := by decide) : EV C n env ε (.Name x pos) σ Q X := fun A g s a D => by
  obtain ⟨v, h1, h2⟩ := (D.S.sim c _ e).cellAt
  exact wpAny_Name (wpAny_loadName_free hk hl hc h1 (pp D h2 h) hn) hd
theorem EV_global (O : C.Ok) {x : Str} {pos : Pos} {v : Value} {y : V} (e : nsIn C.K mainGlobals x = some (some v)) (hv : ∀ h, C.K.In h → RV h y v) (h : Q y σ) (hk : env.scope.kind = .function := by rfl) (hl : env.kindOf x = some .globalImplicit := by rfl)
    (hg : env.globals = mainGlobals := by rfl) (hd : (x == ("__debug__" : Str)) = false := by decide) : EV C n env ε (.Name x pos) σ Q X := fun A g s a D => by
  have T := D.S.top O
  have K := D.S.K O
  exact Name_function_global hk hl (loadGlobal_global (env := env) (by rw [hg]; exact T.g) (mg_of K T.g e) (pp D (hv _ K) h)) hd
theorem EV_builtin (O : C.Ok) {x : Str} {pos : Pos} {v : Value} (e : nsIn C.K mainGlobals x = some none) (hv : bootBuiltins x = some v) (h : Q (.raw v) σ) (hx : x ≠ "__name__" := by decide) (hk : env.scope.kind = .function := by rfl) (hl : env.kindOf x = some .globalImplicit := by rfl)
    (hg : env.globals = mainGlobals := by rfl) (hb : env.builtins = builtinsNs := by rfl) (hd : (x == ("__debug__" : Str)) = false := by decide) : EV C n env ε (.Name x pos) σ Q X := fun A g s a D => by
  have T := D.S.top O
  have K := D.S.K O
  exact Name_function_global hk hl (loadGlobal_builtin (env := env) (by rw [hg]; exact T.g) (mg_none_of K T.g e) (by rw [hb]; exact T.b) ((T.builtins x hx).trans hv) (pp D rv_raw h)) hd
abbrev Qo2 (C : Cx) (n : Nat) (env : Env) (ε : Loc) (t : Value → Value → Sem Value) (x : V) (Q : V → Store → Prop) (X : AX → Store → Prop) : V → Store → Prop := fun y σ₂ => OP2 C n env ε t x y σ₂ Q X
abbrev Qe2 (C : Cx) (n : Nat) (env : Env) (ε : Loc) (r : Expr) (t : Value → Value → Sem Value) (Q : V → Store → Prop) (X : AX → Store → Prop) : V → Store → Prop := fun x σ₁ => EV C n env ε r σ₁ (Qo2 C n env ε t x Q X) X
abbrev Qo1 (C : Cx) (n : Nat) (env : Env) (ε : Loc) (t : Value → Sem Value) (Q : V → Store → Prop) (X : AX → Store → Prop) : V → Store → Prop := fun x σ₁ => OP1 C n env ε t x σ₁ Q X
abbrev Qot (C : Cx) (n : Nat) (env : Env) (ε : Loc) (QB : Bool → Store → Prop) (X : AX → Store → Prop) : V → Store → Prop := fun x σ₁ => OPT C n env ε truthy x σ₁ QB X
theorem EV_BinOp {l r : Expr} {op : Operator} {pos : Pos} (h : EV C n env ε l σ (Qe2 C n env ε r (binaryOp op) Q X) X) : EV C n env ε (.BinOp l op r pos) σ Q X :=
  fun A g s a D => wpAny_BinOp (h.use a D (fun v x σ₁ s₁ D₁ k₁ r₁ h₁ => h₁.use a D₁ (fun w y σ₂ s₂ D₂ k₂ r₂ h₂ => wpAny_mono (h₂ A g s₂ v w a D₂ (RV.mono k₂ _ _ r₁) r₂) (fun _ _ z => z.trans (k₁.trans k₂)) fun _ _ z => z.trans (k₁.trans k₂))
    fun _ _ z => z.trans k₁) fun _ _ z => z)
theorem EV_IfExp {t b o : Expr} {pos : Pos} (h : TT C n env ε (isTrue t env (eval t env)) σ (fun c σ₁ => if c then EV C n env ε b σ₁ Q X else EV C n env ε o σ₁ Q X) X) : EV C n env ε (.IfExp t b o pos) σ Q X :=
  fun A g s a D => wpAny_IfExp (h.use a D (fun c σ₁ s₁ D₁ k₁ h₁ => by
    cases c with
    | true => exact wpAny_mono (h₁ A g s₁ a D₁) (fun _ _ z => z.trans k₁) fun _ _ z => z.trans k₁
    | false => exact wpAny_mono (h₁ A g s₁ a D₁) (fun _ _ z => z.trans k₁) fun _ _ z => z.trans k₁) fun _ _ z => z)
theorem EV_Compare {l r : Expr} {op : CmpOp} {pos : Pos} (h : EV C n env ε l σ (Qe2 C n env ε r (compareOp op) Q X) X) (hm : behindInMarks op r = false := by with_unfolding_all rfl) :
    EV C n env ε (.Compare l [op] [r] pos) σ Q X :=
  fun A g s a D => wpAny_Compare1 (h.use a D (fun v x σ₁ s₁ D₁ k₁ r₁ h₁ => h₁.use a D₁ (fun w y σ₂ s₂ D₂ k₂ r₂ h₂ => wpAny_mono (h₂ A g s₂ v w a D₂ (RV.mono k₂ _ _ r₁) r₂) (fun _ _ z => z.trans (k₁.trans k₂)) fun _ _ z => z.trans (k₁.trans k₂))
    fun _ _ z => z.trans k₁) fun _ _ z => z) hm
theorem TT_Compare {l r : Expr} {op : CmpOp} {pos : Pos} {w : Sem Value} (h : EV C n env ε l σ (Qe2 C n env ε r (compareOp op) (fun z σ₃ => ∃ b, z = .bool b ∧ QB b σ₃) X) X) (hm : behindInMarks op r = false := by with_unfolding_all rfl) :
    TT C n env ε (isTrue (.Compare l [op] [r] pos) env w) σ QB X :=
  fun A g s a D => wpAny_isTrue_Compare1 (h.use a D (fun v x σ₁ s₁ D₁ k₁ r₁ h₁ => h₁.use a D₁ (fun w y σ₂ s₂ D₂ k₂ r₂ h₂ => wpAny_mono (h₂ A g s₂ v w a D₂ (RV.mono k₂ _ _ r₁) r₂)
      (fun u s₃ ⟨z, σ₃, D₃, k₃, r₃, b, e, q⟩ => by
        subst e
        rw [show u = Value.bool b from r₃]
        exact wpAny_truthy_bool ⟨σ₃, D₃, (k₁.trans k₂).trans k₃, q⟩) fun _ _ z => z.trans (k₁.trans k₂))
    fun _ _ z => z.trans k₁) fun _ _ z => z) hm
theorem TT_Not {e : Expr} {pos : Pos} {w : Sem Value} (h : TT C n env ε (isTrue e env (eval e env)) σ (fun b => QB (!b)) X) : TT C n env ε (isTrue (.UnaryOp .Not e pos) env w) σ QB X :=
  fun A g s a D => wpAny_isTrue_Not (wpAny_mono (h A g s a D) (fun b s' ⟨σ', p, q, z⟩ => ⟨σ', p, q, z⟩) fun _ _ z => z)
theorem TT_value {e : Expr} {w : Sem Value} (h : TV C n env ε w σ (Qot C n env ε QB X) X) (he : isTrue e env w = (do let v ← w; standAt e.pos; holding [v] (truthy v)) := by rfl) : TT C n env ε (isTrue e env w) σ QB X :=
  fun A g s a D => wpAny_isTrue_value (h.use a D (fun v x σ₁ s₁ D₁ k₁ r₁ h₁ => wpAny_mono (h₁ A g s₁ v a D₁ r₁) (fun _ _ z => z.trans k₁) fun _ _ z => z.trans k₁) fun _ _ z => z) he
theorem TT_BoolOp {op : BoolOp} {es : List Expr} {pos : Pos} {w : Sem Value} (h : TT C n env ε (allTrue op es env) σ QB X) : TT C n env ε (isTrue (.BoolOp op es pos) env w) σ QB X :=
  fun A g s a D => wpAny_isTrue_BoolOp (h A g s a D)
theorem TT_And_nil (h : QB true σ) : TT C n env ε (allTrue .And [] env) σ QB X := fun A g s a D => wpAny_allTrue_And_nil (pb D h)
theorem TT_Or_nil (h : QB false σ) : TT C n env ε (allTrue .Or [] env) σ QB X := fun A g s a D => wpAny_allTrue_Or_nil (pb D h)
theorem TT_And {e : Expr} {es : List Expr} (h : TT C n env ε (isTrue e env (eval e env)) σ (fun b σ₁ => if b then TT C n env ε (allTrue .And es env) σ₁ QB X else QB false σ₁) X) : TT C n env ε (allTrue .And (e :: es) env) σ QB X :=
  fun A g s a D => wpAny_allTrue_And_cons (h.use a D (fun b σ₁ s₁ D₁ k₁ h₁ => by
    cases b with
    | true => exact wpAny_mono (h₁ A g s₁ a D₁) (fun _ _ z => z.trans k₁) fun _ _ z => z.trans k₁
    | false => exact ⟨σ₁, D₁, k₁, h₁⟩) fun _ _ z => z)
theorem TT_Or {e : Expr} {es : List Expr} (h : TT C n env ε (isTrue e env (eval e env)) σ (fun b σ₁ => if b then QB true σ₁ else TT C n env ε (allTrue .Or es env) σ₁ QB X) X) : TT C n env ε (allTrue .Or (e :: es) env) σ QB X :=
  fun A g s a D => wpAny_allTrue_Or_cons (h.use a D (fun b σ₁ s₁ D₁ k₁ h₁ => by
    cases b with
    | true => exact ⟨σ₁, D₁, k₁, h₁⟩
    | false => exact wpAny_mono (h₁ A g s₁ a D₁) (fun _ _ z => z.trans k₁) fun _ _ z => z.trans k₁) fun _ _ z => z)
theorem EV_And1 {e : Expr} {pos : Pos} (h : EV C n env ε e σ Q X) : TV C n env ε (boolOp pos .And [eval e env]) σ Q X := h
theorem boolOp_cons (pos : Pos) (op : BoolOp) (x y : Sem Value) (r : List (Sem Value)) : boolOp pos op (x :: y :: r) = (do
    let v ← x
    standAt pos
    let t ← holding [v] (truthy v)
    match op, t with
    | .And, false | .Or, true => pure v
    | _, _ => boolOp pos op (y :: r)) := rfl
theorem EV_And2 {x y : Sem Value} {r : List (Sem Value)} {pos : Pos} (h : TV C n env ε x σ (fun v σ₁ => OPT C n env ε truthy v σ₁ (fun b σ₂ => if b then TV C n env ε (boolOp pos .And (y :: r)) σ₂ Q X else Q v σ₂) X) X) : TV C n env ε (boolOp pos .And (x :: y :: r)) σ Q X :=
  fun A g s a D => by
    rw [boolOp_cons]
    refine wpAny_bind (h.use a D (fun v x σ₁ s₁ D₁ k₁ r₁ h₁ => wpAny_bind (wpAny_standAt (wpAny_bind (wpAny_holding (wpAny_mono (h₁ A g s₁ v a D₁ r₁) (fun b s₂ ⟨σ₂, D₂, k₂, q⟩ => ?_) fun _ _ z => z.trans k₁))))) fun _ _ z => z)
    cases b with
    | true => exact wpAny_mono (q A g s₂ a D₂) (fun _ _ z => z.trans (k₁.trans k₂)) fun _ _ z => z.trans (k₁.trans k₂)
    | false => exact wpAny_pure ⟨x, σ₂, D₂, k₁.trans k₂, RV.mono k₂ _ _ r₁, q⟩
theorem EV_BoolOp {op : BoolOp} {es : List Expr} {pos : Pos} (h : TV C n env ε (boolOp pos op (evalEach es env)) σ Q X) : EV C n env ε (.BoolOp op es pos) σ Q X := h
theorem OPT_bool {b : Bool} (h : QB b σ) : OPT C n env ε truthy (.bool b) σ QB X := fun A g s v a D r => by
  rw [show v = _ from r]; exact wpAny_truthy_bool (pb D h)
end
end Mine
end
section
open PySem PySem.W PyProof.Rows PySem.Calls PySem.Spec
set_option Elab.async false
set_option maxRecDepth 100000
set_option linter.unusedVariables false
namespace Mine
section
variable {C : Cx} {g : Gh} {σ σ' : Store} {s s' : Shared} {env : Env} {ε : Loc} {n : Nat} {A : Around} {Q : V → Store → Prop} {X : AX → Store → Prop} {QB : Bool → Store → Prop} {QS : Fl → Loc → Store → Prop}
theorem Frm.obj (F : Frm C g env ε σ s) : ∃ oL es ep, s.heap.get? env.locals = some oL ∧ oL.data = .dict es ep := let ⟨_, ⟨o, es, ep, a, b, _⟩, _⟩ := F.ns; ⟨o, es, ep, a, b⟩
theorem Hd.lend (D : Hd C g env ε σ s) (a : AOk C n g (some env) A) : ∃ oL, (∃ es ep, oL.data = .dict es ep) ∧ St C (gadd g env.locals oL) σ s ∧ AOk C n (gadd g env.locals oL) none A ∧
    ∀ σ' s', St C (gadd g env.locals oL) σ' s' → TK s.heap s'.heap → Hd C g env ε σ' s' := by
  obtain ⟨m, ⟨oL, es, ep, h1, h2, h3, h4⟩, hε⟩ := D.F.ns
  refine ⟨oL, ⟨es, ep, h2⟩, D.S.ghost D.F.σL D.F.hL h1 ⟨NX.dict h2, NT.dict h2⟩, ⟨a.handled, a.depth, a.units, ?_⟩, fun σ' s' S' k => ?_⟩
  · obtain ⟨outer, e, f, _⟩ := a.frames
    refine ⟨outer, e, fun en hen => ?_, fun _ h => absurd h (Option.some_ne_none _).symm⟩
    obtain ⟨k1, F, k2, k3, k4⟩ := f en hen
    refine ⟨k1, F, k2, k3, .inr ?_⟩
    by_cases hF : F = env.locals
    · exact ⟨oL, by simp [gadd, hF], es, ep, h2⟩
    · rcases k4 with k4 | ⟨o, k4, k5⟩
      · exact absurd (Option.some.inj k4).symm hF
      · exact ⟨o, by simp [gadd, hF, k4], k5⟩
  · have gl : ∀ b o, g b = some o → gadd g env.locals oL b = some o := fun b o e => by
      have : b ≠ env.locals := fun q => by rw [q, D.F.gL] at e; cases e
      simp [gadd, this, e]
    obtain ⟨oL', q, se⟩ := S'.gs env.locals oL (by simp [gadd])
    refine ⟨S'.ghostLess gl, D.F.gL, D.F.hL, ?_, m, ⟨_, es, ep, q, se.data.trans h2, h3, h4⟩, fun x V hx => ?_⟩
    · cases r : σ' env.locals with
      | none => rfl
      | some o => have := S'.gσ env.locals (by rw [r]; exact nofun); simp [gadd] at this
    · obtain ⟨v, p1, p2⟩ := hε x V hx
      exact ⟨v, p1, RV.mono k _ _ p2⟩
theorem RX.back {h : Heap} {e : Value} {ax : AX} {b : Bool} {oL : Obj} {L : Addr} (x : RX C (gadd g L oL) σ h none e ax b) (S : St C (gadd g L oL) σ s) (hs : s.heap = h) (hd : ∃ es ep, oL.data = .dict es ep) (hg : g L = none) : RX C g σ h (some L) e ax b := by
  obtain ⟨a, oe, vs, h1, h2, h3, h4, h5, h6, h7, h8, h9, h10, h11⟩ := x.ex
  subst hs
  have haL : a ≠ L := fun q => by subst q; simp [gadd] at h4
  obtain ⟨oL', q, se⟩ := S.gs L oL (by simp [gadd])
  obtain ⟨es, ep, hd⟩ := hd
  refine ⟨a, oe, vs, h1, h2, h3, by simpa [gadd, haL] using h4, fun z => haL (Option.some.inj z).symm, h6, h7, h8, h9, h10, ?_⟩
  rcases h11 with h11 | ⟨T, oT, ts, t1, t2, t3, t4, t5, t6, t7, t8, t9⟩
  · exact .inl h11
  · refine .inr ⟨T, oT, ts, t1, t2, t3, t4, fun z => ?_, t6, t7, t8, t9⟩
    rw [Option.some.inj z, t6] at q
    cases q
    rw [se.data, hd] at t8; cases t8
theorem OPL_call {f : Value} {xs : List V} (h : CALL C n f xs σ Q X) : OPL C n env ε (fun vs => call f vs) xs σ Q X := fun A g s vs a D r => by
  obtain ⟨oL, hd, S', a', back⟩ := D.lend a
  refine wpAny_call (codeAny_mono (h A _ s vs a' S' r) fun r s' z => ?_)
  rcases r with e | (_ | _ | _ | v)
  · obtain ⟨ax, σ', b, S2, k, rx, q⟩ := z; exact ⟨ax, σ', ε, b, back σ' s' S2 k, k, rx.back S2 rfl hd D.F.gL, q⟩
  · exact z
  · exact z
  · exact z
  · obtain ⟨x, σ', S2, k, rv, q⟩ := z; exact ⟨x, σ', back σ' s' S2 k, k, rv, q⟩
theorem zip_lookup {α : Type} : ∀ {ns : List Str} {vs : List α}, ns.Nodup → ∀ x, (ns.zip vs).reverse.lookup x = (ns.zip vs).lookup x
  | [], _, _, _ => rfl
  | _ :: _, [], _, _ => rfl
  | m :: ns, v :: vs, h, x => by
    rw [List.nodup_cons] at h
    rw [List.zip_cons_cons, List.reverse_cons, List.lookup_append, zip_lookup h.2, List.lookup_cons]
    by_cases hx : x = m
    · subst hx
      have : (ns.zip vs).lookup x = none := by
        rw [List.lookup_eq_none_iff]
        intro p hp
        have := (List.of_mem_zip hp).1
        simp only [bne_iff_ne, ne_eq]
        rintro rfl
        exact h.1 this
      simp [this]
    · have hb : (x == m) = false := by simpa using hx
      simp [hb, List.lookup_cons]
theorem zip_rv {h : Heap} : ∀ {ns : List Str} {xs : List V} {vs : List Value}, RVs h xs vs → ∀ {x : Str} {y : V}, (ns.zip xs).lookup x = some y → ∃ v, (ns.zip vs).lookup x = some v ∧ RV h y v
  | [], _, _, _, _, _, e => by simp at e
  | m :: ns, [], _, _, _, _, e => by simp at e
  | m :: ns, z :: xs, _, r, x, y, e => by
    obtain ⟨v, q, rfl, r1, r2⟩ := r
    rw [List.zip_cons_cons, List.lookup_cons] at e
    rw [List.zip_cons_cons, List.lookup_cons]
    by_cases hx : x = m
    · subst hx
      simp at e; subst e
      exact ⟨v, by simp, r1⟩
    · have hb : (x == m) = false := by simpa using hx
      simp only [hb] at e ⊢
      exact zip_rv r2 e
def FnPost (Q : V → Store → Prop) : Fl → Loc → Store → Prop
  | .ret x, _, σ => Q x σ
  | .next, _, σ => Q .none σ
  | .brk, _, σ => Q .none σ
  | .cont, _, σ => Q .none σ
theorem AOk.frm (a : AOk C n g (some env) A) (S : St C g σ s) (hL : ∃ o es ep, s.heap.get? env.locals = some o ∧ o.data = .dict es ep) : ∃ outer, A.frames = some outer ∧ s.heap.FunFrames C.H outer ∧
    (∀ F ∈ outer.filterMap (·.frame), C.H.get? F = none ∧ (F = env.locals ∨ ∃ o, g F = some o ∧ ∃ es ep, o.data = .dict es ep)) ∧ (env.frame = some env.locals → ∃ r, outer = env :: r) := by
  obtain ⟨outer, e, f, hh⟩ := a.frames
  refine ⟨outer, e, ?_, fun F hF => ?_, (hh env rfl).1⟩
  · clear e hh
    induction outer with
    | nil => trivial
    | cons en r ih =>
      obtain ⟨k1, F, k2, k3, k4⟩ := f en (.head _)
      refine ⟨k1, ?_, ih fun e' he' => f e' (.tail _ he')⟩
      rcases k4 with k4 | ⟨o, k4, k5⟩
      · obtain ⟨o, es, ep, h1, h2⟩ := hL
        cases k4
        exact ⟨_, o, k2, k3, h1, fun vs q => by rw [h2] at q; cases q⟩
      · obtain ⟨o', q, se⟩ := S.gs F o k4
        exact ⟨F, _, k2, k3, q, fun vs z => by obtain ⟨es, ep, k5⟩ := k5; have := k5.symm.trans (se.data.symm.trans z); cases this⟩
  · obtain ⟨en, hen, hf⟩ := List.mem_filterMap.mp hF
    obtain ⟨k1, F', k2, k3, k4⟩ := f en hen
    rw [k2] at hf; cases hf
    exact ⟨k3, k4.imp (fun q => (Option.some.inj q).symm) id⟩
theorem St.slots (S : St C g σ s) {F : List Addr} {h' : Heap} (x : Heap.SlotsOnly F s.heap h') (hF : ∀ b ∈ F, C.H.get? b = none ∧ σ b = none ∧ (∀ o, s.heap.get? b = some o → NT o) ∧ ∀ o, g b = some o → ∃ es ep, o.data = .dict es ep) : St C g σ { s with heap := h' } ∧ TK s.heap h' := by
  have k : TK s.heap h' := fun b o e c ⟨xs, n, d⟩ => by
    by_cases hb : b ∈ F
    · exact absurd c ((hF b hb).2.2.1 o e xs n d)
    · exact (x.2.1 b hb).trans e
  refine ⟨⟨fun b o e => ?_, fun b o e => ?_, S.gt, fun b o e => ?_, S.gσ, S.hσ, S.gh, S.gens, S.os⟩, k⟩
  · have hb : b ∉ F := fun q => by rw [(hF b q).1] at e; cases e
    exact (x.2.1 b hb).trans (S.base b o e)
  · obtain ⟨o', q, se⟩ := S.gs b o e
    by_cases hb : b ∈ F
    · obtain ⟨sl', q'⟩ := x.2.2 b _ q
      exact ⟨_, q', se.slots ((hF b hb).2.2.2 o e) sl'⟩
    · exact ⟨o', (x.2.1 b hb).trans q, se⟩
  · have hb : b ∉ F := fun q => by rw [(hF b q).2.1] at e; cases e
    exact (S.sim b o e).mono_of k (x.2.1 b hb)
end
end Mine
end
section
open PySem PySem.W PyProof.Rows PySem.Calls PySem.Spec
set_option Elab.async false
set_option maxRecDepth 100000
set_option linter.unusedVariables false
namespace Mine
section
variable {C : Cx} {g : Gh} {σ σ' : Store} {s s' : Shared} {env : Env} {ε : Loc} {n : Nat} {A : Around} {Q : V → Store → Prop} {X : AX → Store → Prop} {QB : Bool → Store → Prop} {QS : Fl → Loc → Store → Prop}
theorem NT.fields {o : Obj} {vs} (h : o.data = .fields vs) : NT o := fun _ _ e => by rw [h] at e; cases e
theorem Hd.slots (D : Hd C g env ε σ s) {F : List Addr} {h' : Heap} (x : Heap.SlotsOnly F s.heap h') (hF : ∀ b ∈ F, C.H.get? b = none ∧ (b = env.locals ∨ ∃ o, g b = some o ∧ ∃ es ep, o.data = .dict es ep)) : Hd C g env ε σ { s with heap := h' } ∧ TK s.heap h' := by
  obtain ⟨S', k⟩ := D.S.slots x (fun b hb => by
    obtain ⟨h1, h2⟩ := hF b hb
    refine ⟨h1, ?_, fun o e => ?_, fun o e => ?_⟩
    · rcases h2 with rfl | ⟨o, h2, _⟩
      · exact D.F.σL
      · cases q : σ b with
        | none => rfl
        | some o' => have := D.S.gσ b (by rw [q]; exact nofun); rw [h2] at this; cases this
    · rcases h2 with rfl | ⟨o', h2, _⟩
      · obtain ⟨o', es, ep, e', d⟩ := D.F.obj
        rw [e] at e'; cases e'; exact NT.dict d
      · obtain ⟨o'', e', se⟩ := D.S.gs b o' h2
        rw [e] at e'; cases e'
        intro xs m d c
        exact (D.S.gt b o' h2).2 xs m (se.data.symm.trans d) (se.cls.symm.trans c)
    · rcases h2 with rfl | ⟨o', h2, h3⟩
      · rw [D.F.gL] at e; cases e
      · rw [h2] at e; cases e; exact h3)
  refine ⟨⟨S', D.F.gL, D.F.hL, D.F.σL, ?_⟩, k⟩
  obtain ⟨m, ⟨o, es, ep, e, d, r⟩, z⟩ := D.F.ns
  obtain ⟨sl, q⟩ := x.2.2 _ _ e
  exact ⟨m, ⟨_, es, ep, q, d, r⟩, fun x V hx => let ⟨v, a, b⟩ := z x V hx; ⟨v, a, RV.mono k _ _ b⟩⟩
theorem Hd.recd (D : Hd C g env ε σ s) {a : Addr} {o : Obj} {vs : Array Value} (f : Array Value → Array Value) (hx₀ : σ a = none) (hg : g a = none) (hH : C.H.get? a = none) (ho : s.heap.get? a = some o) (hd : o.data = .fields vs) :
    Hd C g env ε σ { s with heap := s.heap.update a (Obj.mapFields f) } ∧ TK s.heap (s.heap.update a (Obj.mapFields f)) ∧ (s.heap.update a (Obj.mapFields f)).get? a = some (o.mapFields f) ∧ a ≠ env.locals := by
  have hL : a ≠ env.locals := fun q => by
    obtain ⟨o', es, ep, e', d⟩ := D.F.obj
    rw [← q, ho] at e'; cases e'; rw [hd] at d; cases d
  obtain ⟨D', k⟩ := D.other s.toks hx₀ hg hH hL (Heap.SameBut.update ..) ho (NT.fields hd)
  exact ⟨D', k, Heap.get?_update_self _ ho (Obj.isFreed_of_fields (Obj.data_mapFields hd f)), hL⟩
theorem g_none_of (S : St C g σ s) {a : Addr} {o : Obj} {vs} (ho : s.heap.get? a = some o) (hd : o.data = .fields vs) (hc : o.cls = .type "traceback") : g a = none := by
  cases q : g a with
  | none => rfl
  | some o' =>
    obtain ⟨o'', e, se⟩ := S.gs a o' q
    rw [ho] at e; cases e
    obtain ⟨nm, c, ne⟩ := (S.gt a o' q).1 vs (se.data.symm.trans hd)
    have : o'.cls = .type "traceback" := se.cls.symm.trans hc
    rw [c] at this; injection this with this; exact absurd this ne
theorem cls_mapF {o : Obj} {f} : (o.mapFields f).cls = o.cls := Obj.cls_mapFields o f
theorem dict_mapF {o : Obj} {f} : (o.mapFields f).dict = o.dict := by
  obtain ⟨c, d, dt, sl⟩ := o; cases dt <;> rfl
theorem entry_rx {ax : AX} {a : Addr} {oe : Obj} {vs : Array Value} {head : Value} {hadNext : Bool} {QQ : Unit → Shared → Prop} {E : Value → Shared → Prop} (hA : AOk C n g (some env) A) (D : Hd C g env ε σ s) (hf : env.frame = some env.locals)
    (hH : C.H.get? a = none) (hσ : σ a = none) (hg : g a = none) (ho : s.heap.get? a = some oe) (hc : oe.cls = .ref ax.C) (hdi : oe.dict = some ax.d) (hd : oe.data = .fields vs) (hsz : 1 < vs.size)
    (h : ∀ h', Hd C g env ε σ { s with heap := h' } → TK s.heap h' → RX C g σ h' (some env.locals) (.ref a) ax true → QQ () { s with heap := h' }) :
    wpAny C.M A (do let f ← frameOf env; let pl ← entryPlaceOf env.locals hadNext; let b ← EntryCells.newEntry head f .none (rawInt env.locals) .none pl; setField (.ref a) 1 b) QQ E s := by
  obtain ⟨outer, h1, h2, h3, h4⟩ := hA.frm D.S D.F.obj
  obtain ⟨r, rfl⟩ := h4 hf
  refine wpAny_bind (wpAny_frameOf_fun h1 h2 hf fun h₁ hs₁ => ?_)
  obtain ⟨D1, k1⟩ := D.slots hs₁ h3
  refine wpAny_bind (wpAny_entryPlaceOf fun pl hpl => ?_)
  unfold EntryCells.newEntry newFields
  refine wpAny_bind (wpAny_newObj_type ?_ (hpl.sizeOk5 _ _ _ _ _))
  have hane : a ∉ (env :: r).filterMap (·.frame) := fun q => by
    obtain ⟨_, h5⟩ := h3 a q
    rcases h5 with h5 | ⟨o', h5, _⟩
    · obtain ⟨o', es, ep, e', d⟩ := D.F.obj
      rw [← h5, ho] at e'; cases e'; rw [hd] at d; cases d
    · rw [hg] at h5; cases h5
  have ho1 : h₁.get? a = some oe := (hs₁.2.1 a hane).trans ho
  generalize hT : ({ cls := .type "traceback", data := .fields ([head, .ref env.locals, .none, rawInt env.locals, .none] ++ (if pl.isEmpty then List.replicate 6 Value.none else pl)).toArray } : Obj) = oT
  have D2 := D1.push oT s.toks
  have ho2 := Heap.get?_push_of_some (h := h₁) oT ho1
  refine wpAny_setField ho2 hd hsz ?_
  have f2 := D1.fresh (Nat.le_refl _)
  have hTa : h₁.objs.size ≠ a := Nat.ne_of_gt (Heap.lt_size ho1)
  have hfr : oT.isFreed = false := by subst hT; rfl
  obtain ⟨D3, k3, ho3, _⟩ := D2.recd (·.setIfInBounds 1 (Value.ref h₁.objs.size)) hσ hg hH ho2 hd
  refine h _ D3 ((k1.trans (TK.push _ _)).trans k3) ⟨a, _, _, rfl, hH, hσ, hg, ?_, ho3, cls_mapF.trans hc, dict_mapF.trans hdi, Obj.data_mapFields hd _, by simpa using hsz, .inr ⟨h₁.objs.size, oT, _, by simp [hsz], hTa, f2.2.2.1, f2.1, fun q => f2.2.2.2 (Option.some.inj q).symm, ?_, by subst hT; rfl, by subst hT; rfl, ?_⟩⟩
  · intro q
    obtain ⟨o', es, ep, e', d⟩ := D.F.obj
    rw [Option.some.inj q, ho] at e'; cases e'; rw [hd] at d; cases d
  · exact (Heap.get?_update_other _ _ (Ne.symm hTa)).trans (Heap.get?_push_size _ hfr)
  · simp only [List.size_toArray, List.length_append, List.length_cons, List.length_nil]; omega
theorem note_rx {e : Value} {ax : AX} {b : Bool} {QQ : Unit → Shared → Prop} {E : Value → Shared → Prop} (hA : AOk C n g (some env) A) (D : Hd C g env ε σ s) (hf : env.frame = some env.locals) (x : RX C g σ s.heap (some env.locals) e ax b)
    (h : ∀ h', Hd C g env ε σ { s with heap := h' } → TK s.heap h' → RX C g σ h' (some env.locals) e ax true → QQ () { s with heap := h' }) : wpAny C.M A (noteFrame e env) QQ E s := by
  obtain ⟨a, oe, vs, rfl, hH, hσ, hg, hL, ho, hc, hdi, hd, hsz, tb⟩ := x.ex
  unfold noteFrame
  simp only [hf]
  rcases tb with ⟨_, h1⟩ | ⟨T, oT, ts, h1, t2, t3, t4, t5, t6, t7, t8, t9⟩
  · refine wpAny_bind (wpAny_field ho hd h1 ?_)
    rw [if_neg (by decide)]
    exact entry_rx hA D hf hH hσ hg ho hc hdi hd hsz h
  · refine wpAny_bind (wpAny_field ho hd h1 ?_)
    rw [if_pos (show (Value.ref T != Value.none) = true from by simp)]
    obtain ⟨y, hy⟩ : ∃ y, ts[3]? = some y := ⟨ts[3], Array.getElem?_eq_getElem t9⟩
    refine wpAny_bind (wpAny_field t6 t8 hy ?_)
    split
    · exact wpAny_pure (h s.heap D (TK.refl _) ⟨a, oe, vs, rfl, hH, hσ, hg, hL, ho, hc, hdi, hd, hsz, .inr ⟨T, oT, ts, h1, t2, t3, t4, t5, t6, t7, t8, t9⟩⟩)
    · refine wpAny_bind (wpAny_setField t6 t8 t9 ?_)
      have gT := g_none_of D.S t6 t8 t7
      obtain ⟨D1, k1, hT1, _⟩ := D.recd (·.setIfInBounds 3 Value.none) t4 gT t3 t6 t8
      have ho1 : (s.heap.update T (Obj.mapFields (·.setIfInBounds 3 Value.none))).get? a = some oe := (Heap.get?_update_other _ _ t2).trans ho
      exact entry_rx (s := { s with heap := s.heap.update T (Obj.mapFields (·.setIfInBounds 3 Value.none)) }) hA D1 hf hH hσ hg ho1 hc hdi hd hsz fun h' D' k' x' => h h' D' (k1.trans k') x'
theorem flight_rx {e : Value} {ax : AX} {fr : Option Addr} {QQ : Unit → Shared → Prop} {E : Value → Shared → Prop} (D : Hd C g env ε σ s) (x : RX C g σ s.heap (some env.locals) e ax true)
    (h : ∀ h', Hd C g env ε σ { s with heap := h' } → TK s.heap h' → RX C g σ h' (some env.locals) e ax true → QQ () { s with heap := h' }) : wpAny C.M A (setFlight e fr) QQ E s := by
  obtain ⟨a, oe, vs, rfl, hH, hσ, hg, hL, ho, hc, hdi, hd, hsz, tb⟩ := x.ex
  rcases tb with ⟨q, _⟩ | ⟨T, oT, ts, h1, t2, t3, t4, t5, t6, t7, t8, t9⟩
  · cases q
  · unfold setFlight
    refine wpAny_bind (wpAny_field ho hd h1 ?_)
    rw [if_pos (show (Value.ref T != Value.none) = true from by simp)]
    refine wpAny_setField t6 t8 t9 ?_
    have gT := g_none_of D.S t6 t8 t7
    obtain ⟨D1, k1, hT1, _⟩ := D.recd (·.setIfInBounds 3 (fr.elim Value.none fun f => rawInt f)) t4 gT t3 t6 t8
    refine h _ D1 k1 ⟨a, oe, vs, rfl, hH, hσ, hg, hL, (Heap.get?_update_other _ _ t2).trans ho, hc, hdi, hd, hsz, .inr ⟨T, _, _, h1, t2, t3, t4, t5, hT1, cls_mapF.trans t7, Obj.data_mapFields t8 _, by simpa using t9⟩⟩
theorem leaving_rx {e : Value} {ax : AX} {b : Bool} {QQ : Unit → Shared → Prop} {E : Value → Shared → Prop} (hA : AOk C n g (some env) A) (D : Hd C g env ε σ s) (hf : env.frame = some env.locals) (x : RX C g σ s.heap (some env.locals) e ax b)
    (h : ∀ h', Hd C g env ε σ { s with heap := h' } → TK s.heap h' → RX C g σ h' (some env.locals) e ax true → QQ () { s with heap := h' }) : wpAny C.M A (leaving env e) QQ E s := by
  unfold leaving
  exact wpAny_bind (note_rx hA D hf x fun h₁ D₁ k₁ x₁ => flight_rx D₁ x₁ fun h₂ D₂ k₂ x₂ => h h₂ D₂ (k₁.trans k₂) x₂)
theorem noted_rx {e : Value} {E : Value → Shared → Prop} (hA : AOk C n g (some env) A) (hf : env.frame = some env.locals) {s₀ : Shared} (x : PostX C g env s₀ X e s) (h : ∀ s', PostX C g env s₀ X e s' → (∃ ax σ' ε', Hd C g env ε' σ' s' ∧ TK s₀.heap s'.heap ∧ RX C g σ' s'.heap (some env.locals) e ax true ∧ X ax σ') → E e s') :
    notedBy C.M A env E e s := by
  obtain ⟨ax, σ', ε', b, D, k, rx, q⟩ := x
  unfold notedBy
  exact note_rx hA D hf rx fun h' D' k' rx' => h _ ⟨ax, σ', ε', true, D', k.trans k', rx', q⟩ ⟨ax, σ', ε', D', k.trans k', rx', q⟩
theorem cameBack_rx {e : Value} {E : Value → Shared → Prop} {s₀ : Shared} {ax : AX} (D : Hd C g env ε σ s) (k : TK s₀.heap s.heap) (rx : RX C g σ s.heap (some env.locals) e ax true) (q : X ax σ) (h : ∀ s', PostX C g env s₀ X e s' → E e s') :
    cameBackBy C.M A env E e s := by
  unfold cameBackBy
  have rx0 := rx
  obtain ⟨a, oe, vs, rfl, hH, hσ, hg, hL, ho, hc, hdi, hd, hsz, tb⟩ := rx.ex
  rcases tb with ⟨q, _⟩ | ⟨T, oT, ts, h1, t2, t3, t4, t5, t6, t7, t8, t9⟩
  · cases q
  · refine wpAny_bind (wpAny_field ho hd h1 ?_)
    rw [if_neg (by simp)]
    exact flight_rx D rx0 fun h' D' k' rx' => h _ ⟨ax, σ, ε, true, D', k.trans k', rx', q⟩
end
end Mine
end
section
open PySem PySem.W PyProof.Rows PySem.Calls PySem.Spec
set_option Elab.async false
set_option maxRecDepth 100000
set_option linter.unusedVariables false
namespace Mine
section
variable {C : Cx} {g : Gh} {σ σ' : Store} {s s' : Shared} {env : Env} {ε : Loc} {n : Nat} {A : Around} {Q : V → Store → Prop} {X : AX → Store → Prop} {QB : Bool → Store → Prop} {QS : Fl → Loc → Store → Prop}
theorem AOk.deep (a : AOk C (n + 1) g none A) (hf : env.frame = some env.locals) (hk : env.scope.kind = .function) (hH : C.H.get? env.locals = none) : AOk C n g (some env) (A.deeper env) := by
  obtain ⟨outer, e, f, _⟩ := a.frames
  refine ⟨.inl a.hn, by have := a.depth; show A.depth + 1 + _ < _; omega, by have := a.units; show A.units + 3 + _ < _; omega, env :: outer, by show A.frames.map _ = _; rw [e]; rfl, fun en hen => ?_, fun en hen => by cases hen; exact ⟨fun _ => ⟨outer, rfl⟩, _, .head _, rfl⟩⟩
  rcases List.mem_cons.mp hen with rfl | hen
  · exact ⟨by rw [hk]; decide, _, hf, hH, .inl rfl⟩
  · obtain ⟨k1, F, k2, k3, k4⟩ := f en hen
    exact ⟨k1, F, k2, k3, .inr (k4.resolve_left nofun)⟩
theorem RX.out {h : Heap} {e : Value} {ax : AX} {b : Bool} {L : Addr} (x : RX C g σ h (some L) e ax b) : RX C g σ h none e ax b := by
  obtain ⟨a, oe, vs, h1, h2, h3, h4, h5, h6, h7, h8, h9, h10, h11⟩ := x.ex
  exact ⟨a, oe, vs, h1, h2, h3, h4, nofun, h6, h7, h8, h9, h10, h11.imp id fun ⟨T, oT, ts, t1, t2, t3, t4, _, t6, t7, t8, t9⟩ => ⟨T, oT, ts, t1, t2, t3, t4, nofun, t6, t7, t8, t9⟩⟩
theorem leave_out {body : Sem Flow} {s₀ : Shared} (a : AOk C n g (some env) A) (hf : env.frame = some env.locals) (k₀ : TK s₀.heap s.heap) (h : wpAny C.M A body (PostS C g env s (FnPost Q)) (PostX C g env s X) s) {R : Result → Shared → Prop}
    (hR : ∀ r s', (match r with | .ok (.ret v) => PostC C g s₀ Q v s' | .ok _ => False | .error e => PostCX C g s₀ X e s') → R r s') :
    wpAny C.M A body (fun f s' => R (.ok (.ret (match f with | .ret v => v | _ => .none))) s') (fun e s' => wpAny C.M A (leaving env e) (fun _ s'' => R (.error e) s'') (fun e' s'' => R (.error e') s'') s') s := by
  refine wpAny_mono h (fun f s' ⟨x, ε', σ', D, k, rf, q⟩ => hR _ _ ?_) fun e s' ⟨ax, σ', ε', b, D, k, rx, q⟩ => leaving_rx a D hf rx fun h' D' k' rx' => hR _ _ ?_
  · cases x with
    | ret y => obtain ⟨v, rfl, rv⟩ := rf; exact ⟨y, σ', D.S, k₀.trans k, rv, q⟩
    | next => rw [show f = _ from rf]; exact ⟨.none, σ', D.S, k₀.trans k, rfl, q⟩
    | brk => rw [show f = _ from rf]; exact ⟨.none, σ', D.S, k₀.trans k, rfl, q⟩
    | cont => rw [show f = _ from rf]; exact ⟨.none, σ', D.S, k₀.trans k, rfl, q⟩
  · exact ⟨ax, σ', true, D'.S, (k₀.trans k).trans k', rx'.out, q⟩
theorem CALL_bind (O : C.Ok) {name qual : Str} {params : Arguments} {body : List Stmt} {scope : Scope} {dV kV doc pm cdv ct oc : Value} {an od : Option Addr} {osl : Array (Option Value)} {f : Addr} {names : List Str} {args all : List V}
    (ho : C.K.lookup f = some ⟨oc, od, .func (fnOf name qual params body scope dV kV doc pm an cdv ct), osl⟩) (hcd : codeIn C.K cdv qual = true)
    (hb : ∀ (s : Shared) (vs : List Value), C.K.In s.heap → RVs s.heap args vs → ∃ ws, RVs s.heap all ws ∧ BindsTo s (fnOf name qual params body scope dV kV doc pm an cdv ct) ⟨vs, []⟩ (names.zip ws)) (hn : names.Nodup)
    (hloc : ∀ y ∈ names, scope.names.lookup y = some .local)
    (h : ∀ L, TS C n (envOf qual scope L f cdv) (names.zip all) (execs body (envOf qual scope L f cdv)) σ (FnPost Q) X)
    (hco : scope.isCoroutine = false := by rfl) (hgen : scope.isGenerator = false := by rfl) (hk : scope.kind = .function := by rfl) (hcell : ∀ x ∈ scope.names, x.2 ≠ .cell := by decide) :
    CALL C (n + 1) (.ref f) args σ Q X := fun A g s vs a S r => by
  have K := S.K O
  obtain ⟨ws, rw', hbt⟩ := hb s vs K r
  refine codeAny_call_def (fd := fnOf name qual params body scope dV kV doc pm an cdv ct) (body := body) (binds := names.zip ws) a.room (K _ _ ho) rfl (S.top O).nolimit (codeRec_of K hcd) rfl hbt hcell
    (fun y hy => hloc _ (List.of_mem_zip hy).1) (fun h₁ hns hk₁ => ?_) hco hgen hk
  obtain ⟨f1, f2, f3⟩ := S.fresh (Nat.le_refl _)
  have S1 := S.grow (h' := h₁) (s.toks + (names.zip ws).length) hk₁
  have k1 : TK s.heap h₁ := .of_keeps hk₁
  have D : Hd C g (envOf qual scope s.heap.objs.size f cdv) (names.zip all) σ { s with heap := h₁, toks := s.toks + (names.zip ws).length } :=
    ⟨S1, f2, f3, f1, _, hns, fun x V hx => by
      obtain ⟨v, e1, e2⟩ := zip_rv rw' hx
      exact ⟨v, (zip_lookup hn x).trans e1, RV.mono k1 _ _ e2⟩⟩
  have a' : AOk C n g (some (envOf qual scope s.heap.objs.size f cdv)) (A.deeper (envOf qual scope s.heap.objs.size f cdv)) := a.deep rfl hk f3
  exact leave_out (s₀ := s) (R := RC C g s Q X) a' rfl k1 (h s.heap.objs.size _ g _ a' D) fun r s' q => by
    cases r with
    | error e => exact q
    | ok fl => cases fl <;> exact q
theorem CALL_def (O : C.Ok) {name qual : Str} {params : Arguments} {body : List Stmt} {scope : Scope} {dV kV doc pm cdv ct oc : Value} {an od : Option Addr} {osl : Array (Option Value)} {f : Addr} {names : List Str} {args : List V}
    (ho : C.K.lookup f = some ⟨oc, od, .func (fnOf name qual params body scope dV kV doc pm an cdv ct), osl⟩) (hcd : codeIn C.K cdv qual = true)
    (hb : ∀ vs : List Value, vs.length = args.length → bindArgs (fnOf name qual params body scope dV kV doc pm an cdv ct) ⟨vs, []⟩ = pure (names.zip vs)) (hn : names.Nodup)
    (hloc : ∀ y ∈ names, scope.names.lookup y = some .local)
    (h : ∀ L, TS C n (envOf qual scope L f cdv) (names.zip args) (execs body (envOf qual scope L f cdv)) σ (FnPost Q) X)
    (hco : scope.isCoroutine = false := by rfl) (hgen : scope.isGenerator = false := by rfl) (hk : scope.kind = .function := by rfl) (hcell : ∀ x ∈ scope.names, x.2 ≠ .cell := by decide) :
    CALL C (n + 1) (.ref f) args σ Q X :=
  CALL_bind O ho hcd (fun s vs _ r => ⟨vs, r, BindsTo.of_eq (hb vs r.length)⟩) hn hloc h hco hgen hk hcell
theorem TS_nil (h : QS .next ε σ) : TS C n env ε (execs [] env) σ QS X := fun A g s a D => wpAny_execs_nil ⟨.next, ε, σ, D, TK.refl _, rfl, h⟩
def Seq (C : Cx) (n : Nat) (env : Env) (rest : List Stmt) (QS : Fl → Loc → Store → Prop) (X : AX → Store → Prop) : Fl → Loc → Store → Prop
  | .next, ε, σ => TS C n env ε (execs rest env) σ QS X
  | f, ε, σ => QS f ε σ
theorem TS_cons {st : Stmt} {rest : List Stmt} (h : TS C n env ε (exec st env) σ (Seq C n env rest QS X) X) : TS C n env ε (execs (st :: rest) env) σ QS X := fun A g s a D =>
  wpAny_execs_cons (h.use a D (fun f x ε' σ' s' D' k rf q => by
    cases x with
    | next => rw [show f = _ from rf]; exact wpAny_mono (q A g s' a D') (fun _ _ z => z.trans k) fun _ _ z => z.trans k
    | brk => rw [show f = _ from rf]; exact ⟨.brk, ε', σ', D', k, rfl, q⟩
    | cont => rw [show f = _ from rf]; exact ⟨.cont, ε', σ', D', k, rfl, q⟩
    | ret y => obtain ⟨v, rfl, rv⟩ := rf; exact ⟨.ret y, ε', σ', D', k, ⟨v, rfl, rv⟩, q⟩) fun _ _ z => z)
abbrev Qret (ε : Loc) (QS : Fl → Loc → Store → Prop) : V → Store → Prop := fun x σ₁ => QS (.ret x) ε σ₁
theorem TS_Return {e : Expr} {pos : Pos} (h : EV C n env ε e σ (Qret ε QS) X) : TS C n env ε (exec (.Return (some e) pos) env) σ QS X := fun A g s a D =>
  wpAny_Return_some (h.use a D (fun v x σ' s' D' k r q => ⟨.ret x, ε, σ', D', k, ⟨v, rfl, r⟩, q⟩) fun _ _ z => z)
theorem TS_If {t : Expr} {b o : List Stmt} {pos : Pos} (h : TT C n env ε (isTrue t env (eval t env)) σ (fun c σ₁ => if c then TS C n env ε (execs b env) σ₁ QS X else TS C n env ε (execs o env) σ₁ QS X) X) : TS C n env ε (exec (.If t b o pos) env) σ QS X :=
  fun A g s a D => wpAny_If (h.use a D (fun c σ₁ s₁ D₁ k₁ h₁ => by
    cases c with
    | true => exact wpAny_mono (h₁ A g s₁ a D₁) (fun _ _ z => z.trans k₁) fun _ _ z => z.trans k₁
    | false => exact wpAny_mono (h₁ A g s₁ a D₁) (fun _ _ z => z.trans k₁) fun _ _ z => z.trans k₁) fun _ _ z => z)
abbrev Qexp (ε : Loc) (QS : Fl → Loc → Store → Prop) : V → Store → Prop := fun _ σ₁ => QS .next ε σ₁
theorem TS_Expr {e : Expr} {pos : Pos} (h : EV C n env ε e σ (Qexp ε QS) X) (hi : interactive env = false := by rfl) (hs : swapsWith e none pos.line env = pure false := by rfl) : TS C n env ε (exec (.Expr e pos) env) σ QS X :=
  fun A g s a D => wpAny_Expr_any (h.use a D (fun v x σ' s' D' k r q => ⟨.next, ε, σ', D', k, rfl, q⟩) fun _ _ z => z) hi hs
def SN (C : Cx) (n : Nat) (env : Env) (ε : Loc) (x : Str) (y : V) (σ : Store) (QS : Fl → Loc → Store → Prop) (X : AX → Store → Prop) : Prop :=
  ∀ A g s v, AOk C n g (some env) A → Hd C g env ε σ s → RV s.heap y v → wpAny C.M A (storeName env x v) (fun _ s' => PostS C g env s QS .next s') (PostX C g env s X) s
theorem SN_local {x : Str} {y : V} (h : QS .next ((x, y) :: ε) σ) (hl : env.kindOf x = some .local := by rfl) (hk : env.scope.kind = .function := by rfl) : SN C n env ε x y σ QS X := fun A g s v a D r => by
  obtain ⟨m, hm, he⟩ := D.F.ns
  refine wpAny_storeName_local hl hm (fun h' hn hs => ?_) (by rw [hk]; rfl)
  obtain ⟨D', k⟩ := D.store (s.toks + 1) hm hn hs r he
  exact ⟨.next, _, σ, D', k, rfl, h⟩
theorem SN_cell {x : Str} {y : V} {c : Addr} {o : Option V} (hc : env.cells.lookup x = some c) (hσ : σ c = some (.cell o)) (h : QS .next ε (upd σ c (.cell (some y)))) (hl : env.kindOf x = some .cell := by rfl) (hk : env.scope.kind = .function := by rfl) : SN C n env ε x y σ QS X := fun A g s v a D r => by
  obtain ⟨v₀, ⟨ob, ho, hd⟩, _⟩ := D.S.sim c _ hσ
  refine wpAny_storeName_cell hk hl hc ⟨ob, ho, hd⟩ fun h' hn hs => ?_
  obtain ⟨D', k⟩ := D.set (h' := h') (x := .cell (some y)) s.toks hσ hs ho (fun _ _ e => by rw [hd] at e; cases e) fun k => ⟨some v, hn, v, rfl, RV.mono k _ _ r⟩
  exact ⟨.next, ε, _, D', k, rfl, h⟩
abbrev Qsn (C : Cx) (n : Nat) (env : Env) (ε : Loc) (x : Str) (QS : Fl → Loc → Store → Prop) (X : AX → Store → Prop) : V → Store → Prop := fun y σ₁ => SN C n env ε x y σ₁ QS X
theorem TS_Assign {x : Str} {p' pos : Pos} {e : Expr} (h : EV C n env ε e σ (Qsn C n env ε x QS X) X) (hs : swapsWith e (some (.Name x p')) pos.line env = pure false := by rfl) : TS C n env ε (exec (.Assign [.Name x p'] e pos) env) σ QS X := fun A g s a D =>
  wpAny_Assign_Name (h.use a D (fun v y σ' s' D' k r q => wpAny_mono (q A g s' v a D' r) (fun _ _ z => z.trans k) fun _ _ z => z.trans k) fun _ _ z => z) hs
theorem TL_nil {pos : Pos} {QL : List V → Store → Prop} (h : QL [] σ) : TL C n env ε (spliced (backTo pos (starEach [] env))) σ QL X := fun A g s a D => wpAny_items_nil ⟨[], σ, D, TK.refl _, rfl, h⟩
abbrev Qlc (x : V) (QL : List V → Store → Prop) : List V → Store → Prop := fun xs => QL (x :: xs)
abbrev Qtl (C : Cx) (n : Nat) (env : Env) (ε : Loc) (pos : Pos) (es : List Expr) (QL : List V → Store → Prop) (X : AX → Store → Prop) : V → Store → Prop := fun x σ₁ => TL C n env ε (spliced (backTo pos (starEach es env))) σ₁ (Qlc x QL) X
theorem TL_cons {pos : Pos} {e : Expr} {es : List Expr} {QL : List V → Store → Prop} (h : EV C n env ε e σ (Qtl C n env ε pos es QL X) X)
    (he : starEach (e :: es) env = (false, eval e env) :: starEach es env := by rfl) : TL C n env ε (spliced (backTo pos (starEach (e :: es) env))) σ QL X := fun A g s a D =>
  wpAny_items_cons (h.use a D (fun v x σ₁ s₁ D₁ k₁ r₁ h₁ => wpAny_mono (h₁ A g s₁ a D₁) (fun vs s₂ ⟨xs, σ₂, D₂, k₂, r₂, q⟩ => ⟨x :: xs, σ₂, D₂, k₁.trans k₂, ⟨v, vs, rfl, RV.mono k₂ _ _ r₁, r₂⟩, q⟩) fun _ _ z => z.trans k₁) fun _ _ z => z) he
def Kp (C : Cx) (σ : Store) (f : Value) : Prop := ∀ g s, St C g σ s → ∃ k, (k = Keeper.frame ∨ k = Keeper.machine ∨ k = Keeper.boundFrame) ∧ Looks C.M s.heap (keeperOf f) k
theorem Kp_K (O : C.Ok) {f : Value} (h : keepIn C.K f = true) : Kp C σ f := fun g s S => keeps_K h s.heap (S.K O)
theorem Kp_builtin {id : String} : Kp C σ (.builtin id) := fun g s S => ⟨.machine, .inr (.inl rfl), Looks.of_pure rfl⟩
theorem Kp_type {id : String} : Kp C σ (.type id) := fun g s S => ⟨.machine, .inr (.inl rfl), Looks.of_pure rfl⟩
theorem Kp_fn {q : Addr} {oc : Value} {od : Option Addr} {fd : FuncData} {sl : Array (Option Value)} (h : σ q = some (.raw ⟨oc, od, .func fd, sl⟩)) : Kp C σ (.ref q) := fun g s S => keeps_F s.heap ⟨oc, od, fd, sl, S.sim q _ h⟩
def CW (C : Cx) (n : Nat) (env : Env) (ε : Loc) (pos : Pos) (f : Value) (fs : List V) (args : List Expr) (σ : Store) (Q : V → Store → Prop) (X : AX → Store → Prop) : Prop :=
  ∀ A g s first, AOk C n g (some env) A → Hd C g env ε σ s → RVs s.heap fs first → wpAny C.M A (callWith pos f first (backTo pos (starEach args env)) []) (Post C g env ε s Q) (PostX C g env s X) s
abbrev Qcw (C : Cx) (n : Nat) (env : Env) (ε : Loc) (f : Value) (fs : List V) (Q : V → Store → Prop) (X : AX → Store → Prop) : List V → Store → Prop := fun xs σ₁ => Kp C σ₁ f ∧ OPL C n env ε (fun vs => call f vs) (fs ++ xs) σ₁ Q X
theorem CW_cons {pos : Pos} {f : Value} {fs : List V} {e : Expr} {es : List Expr} (hl : TL C n env ε (spliced (backTo pos (starEach (e :: es) env))) σ (Qcw C n env ε f fs Q X) X)
    (he : starEach (e :: es) env = (false, eval e env) :: starEach es env := by rfl) (hp : (backTo pos (starEach es env)).any (·.1) = false := by rfl) : CW C n env ε pos f fs (e :: es) σ Q X := fun A g s first a D r => by
  have hl' := hl A g s a D
  rw [he] at hl' ⊢
  refine callWith_of (P := fun h => ∃ k, (k = Keeper.frame ∨ k = Keeper.machine ∨ k = Keeper.boundFrame) ∧ Looks C.M h (keeperOf f) k) (by show ((false || (backTo pos (starEach es env)).any (·.1)) || false) = false; rw [hp]; rfl) (fun h x => x)
    (evalArgs_plain (wpAny_mono hl' (fun vs s₁ ⟨xs, σ₁, D₁, k₁, r₁, kp, op⟩ => ⟨kp g s₁ D₁.S, ?_⟩) fun _ _ z => z))
  exact wpAny_mono (op A g s₁ (first ++ vs) a D₁ (RVs.append (RVs.mono k₁ _ _ r) r₁)) (fun _ _ z => z.trans k₁) fun _ _ z => z.trans k₁
theorem CW_nil {pos : Pos} {f : Value} {fs : List V} (kp : Kp C σ f) (op : OPL C n env ε (fun vs => call f vs) fs σ Q X) : CW C n env ε pos f fs [] σ Q X := fun A g s first a D r =>
  callWith_of (P := fun h => ∃ k, (k = Keeper.frame ∨ k = Keeper.machine ∨ k = Keeper.boundFrame) ∧ Looks C.M h (keeperOf f) k) rfl (fun h x => x) (evalArgs_nil3 ⟨kp g s D.S, by
    have := op A g s first a D r
    simpa using this⟩)
abbrev Qcall (C : Cx) (n : Nat) (env : Env) (ε : Loc) (pos : Pos) (args : List Expr) (Q : V → Store → Prop) (X : AX → Store → Prop) : V → Store → Prop := fun f σ₁ => ∃ v, (∀ h w, RV h f w → w = v) ∧ CW C n env ε pos v [] args σ₁ Q X
theorem EV_Call {fn : Expr} {args : List Expr} {pos : Pos} (h : EV C n env ε fn σ (Qcall C n env ε pos args Q X) X)
    (he : eval (.Call fn args [] pos) env = (do callWith pos (← eval fn env) [] (backTo pos (starEach args env)) []) := by rfl) : EV C n env ε (.Call fn args [] pos) σ Q X := fun A g s a D => by
  rw [he]
  refine wpAny_bind (h.use a D (fun v x σ₁ s₁ D₁ k₁ r₁ ⟨w, e, h₁⟩ => ?_) fun _ _ z => z)
  rw [e _ _ r₁]
  exact wpAny_mono (h₁ A g s₁ [] a D₁ RVs.nil) (fun _ _ z => z.trans k₁) fun _ _ z => z.trans k₁
theorem one_raw (v : Value) : ∀ h w, RV h (.raw v) w → w = v := fun _ _ r => r
theorem one_obj (a : Addr) : ∀ h w, RV h (.obj a) w → w = .ref a := fun _ _ r => r
end
end Mine
end
section
open PySem PySem.W PyProof.Rows PySem.Calls PySem.Spec
set_option Elab.async false
set_option maxRecDepth 100000
set_option linter.unusedVariables false
namespace Mine
def strLt (x y : Str) : Bool := decide (x.cps.toList < y.cps.toList)
theorem strEq_iff (x y : Str) : (x.cps.toList == y.cps.toList) = decide (x = y) := by
  by_cases h : x = y
  · subst h; simp
  · have : x.cps.toList ≠ y.cps.toList := fun q => h (by cases x; cases y; simp at q; subst q; rfl)
    have h3 : (x.cps.toList == y.cps.toList) = false := by simpa using this
    rw [h3, decide_eq_false h]
theorem bytesEq_iff (x y : Array UInt8) : (x.toList == y.toList) = decide (x = y) := by
  by_cases h : x = y
  · subst h; simp
  · have : x.toList ≠ y.toList := fun q => h (Array.ext' q)
    simp [h, this]
section
variable {C : Cx} {g : Gh} {σ σ' : Store} {s s' : Shared} {env : Env} {ε : Loc} {n : Nat} {A : Around} {Q : V → Store → Prop} {X : AX → Store → Prop} {QB : Bool → Store → Prop} {QS : Fl → Loc → Store → Prop}
theorem add_ii {a b : Int} (h : Q (.int (a + b)) σ) : OP2 C n env ε (binaryOp .Add) (.int a) (.int b) σ Q X := fun A g s v w hA D r r' => by
  obtain ⟨t, rfl⟩ := r; obtain ⟨u, rfl⟩ := r'; exact P.add_int (ppt D _ rv_int h)
theorem sub_ii {a b : Int} (h : Q (.int (a - b)) σ) : OP2 C n env ε (binaryOp .Sub) (.int a) (.int b) σ Q X := fun A g s v w hA D r r' => by
  obtain ⟨t, rfl⟩ := r; obtain ⟨u, rfl⟩ := r'; exact P.sub_int (ppt D _ rv_int h)
theorem mul_ii {a b : Int} (hm : IntMulOk a b) (h : Q (.int (a * b)) σ) : OP2 C n env ε (binaryOp .Mult) (.int a) (.int b) σ Q X := fun A g s v w hA D r r' => by
  obtain ⟨t, rfl⟩ := r; obtain ⟨u, rfl⟩ := r'; exact P.mul_int (ppt D _ rv_int h) hm
theorem div_ii {a b : Int} (hb : b ≠ 0) (hp : b.natAbs.log2 < 9000) (h : Q (.int (a.fdiv b)) σ) : OP2 C n env ε (binaryOp .FloorDiv) (.int a) (.int b) σ Q X := fun A g s v w hA D r r' => by
  obtain ⟨t, rfl⟩ := r; obtain ⟨u, rfl⟩ := r'; exact floordiv_int hb (ppt D _ rv_int h) (.inl (PyProof.noPylong_of_log2 hp))
theorem mod_ii {a b : Int} (hb : b ≠ 0) (h : Q (.int (a.fmod b)) σ) : OP2 C n env ε (binaryOp .Mod) (.int a) (.int b) σ Q X := fun A g s v w hA D r r' => by
  obtain ⟨t, rfl⟩ := r; obtain ⟨u, rfl⟩ := r'; exact mod_int' hb (ppt D _ rv_int h)
theorem pow_ii {a b : Int} (hb : 0 ≤ b) (hs : (Builtin.Int.intBits a : Int) * b ≤ 2 ^ 27) (h : Q (.int (a ^ b.toNat)) σ) : OP2 C n env ε (binaryOp .Pow) (.int a) (.int b) σ Q X := fun A g s v w hA D r r' => by
  obtain ⟨t, rfl⟩ := r; obtain ⟨u, rfl⟩ := r'; exact pow_int hb hs (ppt D _ rv_int h)
theorem lt_ii {a b : Int} (h : Q (.bool (decide (a < b))) σ) : OP2 C n env ε (compareOp .Lt) (.int a) (.int b) σ Q X := fun A g s v w hA D r r' => by
  obtain ⟨t, rfl⟩ := r; obtain ⟨u, rfl⟩ := r'; exact P.lt_int (pp D rv_bool h)
theorem le_ii {a b : Int} (h : Q (.bool (decide (a ≤ b))) σ) : OP2 C n env ε (compareOp .LtE) (.int a) (.int b) σ Q X := fun A g s v w hA D r r' => by
  obtain ⟨t, rfl⟩ := r; obtain ⟨u, rfl⟩ := r'; exact P.le_int (pp D rv_bool h)
theorem gt_ii {a b : Int} (h : Q (.bool (decide (a > b))) σ) : OP2 C n env ε (compareOp .Gt) (.int a) (.int b) σ Q X := fun A g s v w hA D r r' => by
  obtain ⟨t, rfl⟩ := r; obtain ⟨u, rfl⟩ := r'; exact P.gt_int (pp D rv_bool h)
theorem ge_ii {a b : Int} (h : Q (.bool (decide (a ≥ b))) σ) : OP2 C n env ε (compareOp .GtE) (.int a) (.int b) σ Q X := fun A g s v w hA D r r' => by
  obtain ⟨t, rfl⟩ := r; obtain ⟨u, rfl⟩ := r'; exact P.ge_int (pp D rv_bool h)
theorem eq_ss {a b : Str} (h : Q (.bool (decide (a = b))) σ) : OP2 C n env ε (compareOp .Eq) (.str a) (.str b) σ Q X := fun A g s v w hA D r r' => by
  obtain ⟨t, rfl⟩ := r; obtain ⟨u, rfl⟩ := r'; exact P.eq_str (by rw [strEq_iff]; exact pp D rv_bool h)
theorem ne_ss {a b : Str} (h : Q (.bool (!decide (a = b))) σ) : OP2 C n env ε (compareOp .NotEq) (.str a) (.str b) σ Q X := fun A g s v w hA D r r' => by
  obtain ⟨t, rfl⟩ := r; obtain ⟨u, rfl⟩ := r'; exact P.ne_str (by rw [bne, strEq_iff]; exact pp D rv_bool h)
theorem le_ss {a b : Str} (h : Q (.bool (!strLt b a)) σ) : OP2 C n env ε (compareOp .LtE) (.str a) (.str b) σ Q X := fun A g s v w hA D r r' => by
  obtain ⟨t, rfl⟩ := r; obtain ⟨u, rfl⟩ := r'; exact P.le_str (pp D (show RV s.heap (.bool (!strLt b a)) _ from rfl) h)
theorem eq_bb {a b : Array UInt8} (h : Q (.bool (decide (a = b))) σ) : OP2 C n env ε (compareOp .Eq) (.bytes a) (.bytes b) σ Q X := fun A g s v w hA D r r' => by
  obtain ⟨t, rfl⟩ := r; obtain ⟨u, rfl⟩ := r'; exact eq_bytes (by rw [bytesEq_iff]; exact pp D rv_bool h)
theorem ne_bb {a b : Array UInt8} (h : Q (.bool (!decide (a = b))) σ) : OP2 C n env ε (compareOp .NotEq) (.bytes a) (.bytes b) σ Q X := fun A g s v w hA D r r' => by
  obtain ⟨t, rfl⟩ := r; obtain ⟨u, rfl⟩ := r'; exact ne_bytes (by rw [bne, bytesEq_iff]; exact pp D rv_bool h)
theorem isnot_none {x : V} (b : Bool) (hx : ∀ h v, RV h x v → (!(v == .none)) = b) (h : Q (.bool b) σ) : OP2 C n env ε (compareOp .IsNot) x .none σ Q X := fun A g s v w hA D r r' => by
  rw [show w = _ from r']; exact isNot_none (pp D (by rw [hx _ _ r]; exact rv_bool) h)
theorem add_bb {a b : Array UInt8} (hs : a.size + b.size ≤ 16777216) (h : Q (.bytes (a ++ b)) σ) : OP2 C n env ε (binaryOp .Add) (.bytes a) (.bytes b) σ Q X := fun A g s v w hA D r r' => by
  obtain ⟨t, rfl⟩ := r; obtain ⟨u, rfl⟩ := r'; exact KBy.add_bytes hs fun t' k => ppt D _ rv_bytes h
theorem str_empty {x : Str} (h : (x.length == 0) = true) : x = ⟨#[]⟩ := by
  cases x with
  | mk c => simp [Str.length] at h; simp [h]
theorem add_ss {a b : Str} (hs : a.length + b.length ≤ 16777216) (h : Q (.str (a ++ b)) σ) : OP2 C n env ε (binaryOp .Add) (.str a) (.str b) σ Q X := fun A g s v w hA D r r' => by
  obtain ⟨t, rfl⟩ := r; obtain ⟨u, rfl⟩ := r'
  refine P.add_str ?_
  by_cases h1 : (a.length == 0) = true
  · rw [if_pos h1]
    have : a ++ b = b := by
      rw [str_empty h1]; cases b
      show Str.append _ _ = _
      simp [Str.append]
    rw [this] at h
    exact pp D rv_str h
  · rw [if_neg h1]
    by_cases h2 : (b.length == 0) = true
    · rw [if_pos h2]
      have : a ++ b = a := by
        rw [str_empty h2]; cases a
        show Str.append _ _ = _
        simp [Str.append]
      rw [this] at h
      exact pp D rv_str h
    · rw [if_neg h2]
      exact ⟨by show (Str.append a b).length ≤ _; simp [Str.append, Str.length] at *; exact hs, ppt D _ rv_str h⟩
theorem len_b {b : Array UInt8} (hs : b.size ≤ 16777216) (h : Q (.int b.size) σ) : OPL C n env ε (fun vs => call (.builtin "len") vs) [.bytes b] σ Q X := fun A g s vs hA D r => by
  obtain ⟨v, r', rfl, ⟨t, rfl⟩, q⟩ := r
  rw [show r' = [] from q]
  exact len_bytes (by omega) (ppt D _ rv_int h)
theorem len_s {b : Str} (hs : b.length ≤ 16777216) (h : Q (.int b.length) σ) : OPL C n env ε (fun vs => call (.builtin "len") vs) [.str b] σ Q X := fun A g s vs hA D r => by
  obtain ⟨v, r', rfl, ⟨t, rfl⟩, q⟩ := r
  rw [show r' = [] from q]
  exact P.len_str (by omega) (ppt D _ rv_int h)
end
end Mine
end
section
open PySem PySem.W PyProof.Rows PySem.Calls PySem.Spec
set_option Elab.async false
set_option maxRecDepth 100000
set_option linter.unusedVariables false
namespace Mine
def V.plain : V → Bool
  | .raw _ => false
  | _ => true
theorem handed_of {h : Heap} {x : V} {v : Value} (r : RV h x v) (p : x.plain = true) : handedIn v = true := by
  cases x with
  | none => rw [show v = _ from r]; rfl
  | bool b => rw [show v = _ from r]; rfl
  | int i => obtain ⟨t, rfl⟩ := r; rfl
  | str i => obtain ⟨t, rfl⟩ := r; rfl
  | bytes i => obtain ⟨t, rfl⟩ := r; rfl
  | tup l => obtain ⟨a, vs, rfl, _⟩ := r; rfl
  | obj a => rw [show v = _ from r]; rfl
  | raw w => cases p
theorem RNs.get {h : Heap} : ∀ {fs : List (Str × V)} {es : List DictEntry} (x : Str), RNs h fs es → (match fs.lookup x with | some y => ∃ v, getL x es = some (some v) ∧ RV h y v | none => getL x es = some none)
  | [], es, x, r => by rw [show es = [] from r]; rfl
  | (k, y) :: fs, es, x, r => by
    obtain ⟨e, q, t, rfl, r0, r1, r2⟩ := r
    have ih := RNs.get x r2
    rw [List.lookup_cons]
    by_cases hx : x = k
    · subst hx
      simp only [beq_self_eq_true]
      refine ⟨e.val, ?_, r1⟩
      unfold getL
      rw [List.find?_cons, r0]
      simp [Value.isStr]
    · have hb : (x == k) = false := by simpa using hx
      have hk : e.key.isStr x = false := by rw [r0]; simp [Value.isStr]; exact fun q => hx q.symm
      have hr : e.refKey = false := by simp [DictEntry.refKey, r0]
      have e1 : getL x (e :: q) = getL x q := by
        unfold getL
        rw [List.find?_cons, hk, List.any_cons, hr, Bool.false_or]
      simp only [hb]
      rw [e1]
      exact ih
def putA (x : Str) (y : V) : List (Str × V) → List (Str × V)
  | [] => [(x, y)]
  | (k, z) :: fs => if k = x then (k, y) :: fs else (k, z) :: putA x y fs
theorem RNs.put {h : Heap} {x : Str} {y : V} {v : Value} {hs : Int} {t : Tok} (r : RV h y v) : ∀ {fs : List (Str × V)} {es : List DictEntry}, RNs h fs es → RNs h (putA x y fs) (putL x hs (.str x t) v es)
  | [], es, q => by rw [show es = [] from q]; exact ⟨_, _, t, rfl, rfl, r, rfl⟩
  | (k, z) :: fs, es, q => by
    obtain ⟨e, l, u, rfl, r0, r1, r2⟩ := q
    unfold putA putL
    rw [r0]
    by_cases hk : k = x
    · subst hk
      simp [Value.isStr]
      exact ⟨_, _, u, rfl, rfl, r, r2⟩
    · have : (Value.str k u).isStr x = false := by simp [Value.isStr, hk]
      rw [if_neg hk, this, if_neg (by decide)]
      exact ⟨e, _, u, rfl, r0, r1, RNs.put r r2⟩
theorem putA_length (x : Str) (y : V) : ∀ fs : List (Str × V), (putA x y fs).length ≤ fs.length + 1
  | [] => by simp [putA]
  | (k, z) :: fs => by
    unfold putA
    have := putA_length x y fs
    split
    · simp
    · simp; omega
theorem RNs.length {h : Heap} : ∀ {fs : List (Str × V)} {es : List DictEntry}, RNs h fs es → es.length = fs.length
  | [], es, r => by rw [show es = [] from r]; rfl
  | (k, y) :: fs, es, r => by obtain ⟨e, q, t, rfl, _, _, r2⟩ := r; simp [RNs.length r2]
section
variable {C : Cx} {g : Gh} {σ σ' : Store} {s s' : Shared} {env : Env} {ε : Loc} {n : Nat} {A : Around} {Q : V → Store → Prop} {X : AX → Store → Prop} {QB : Bool → Store → Prop} {QS : Fl → Loc → Store → Prop}
theorem inst_at (S : St C g σ s) {x c d : Addr} {fs : List (Str × V)} (hx : σ x = some (.inst c d)) (hd : σ d = some (.ns fs)) : ∃ es m, InstAt s.heap x (instObj c d) c (some (dictOf es m)) ∧ RNs s.heap fs es ∧ s.heap.get? d = some (dictOf es m) := by
  obtain ⟨es, m, e, r⟩ := S.sim d _ hd
  exact ⟨es, m, ⟨S.sim x _ hx, rfl, rfl, e⟩, r, e⟩
theorem EV_Attr {e : Expr} {nm : Str} {pos : Pos} (h : EV C n env ε e σ (Qo1 C n env ε (fun v => getAttr v nm true) Q X) X)
    (he : eval (.Attribute e nm pos) env = (do
      let o ← eval e env
      standAt pos.atName
      let r ← holding [o] (getAttr o nm true)
      letTemporaryGo e o r
      pure r) := by with_unfolding_all rfl) : EV C n env ε (.Attribute e nm pos) σ Q X := fun A g s a D =>
  Attribute_any_ (h.use a D (fun v x σ₁ s₁ D₁ k₁ r₁ h₁ => wpAny_mono (h₁ A g s₁ v a D₁ r₁) (fun _ _ z => z.trans k₁) fun _ _ z => z.trans k₁) fun _ _ z => z) he
theorem attr_own (O : C.Ok) {x c d : Addr} {fs : List (Str × V)} {nm : Str} {y : V} {attr : Option Value} {ex : Bool} (hx : σ x = some (.inst c d)) (hd : σ d = some (.ns fs)) (hl : fs.lookup nm = some y) (hp : y.plain = true)
    (h1 : plainGet C.K c nm = true) (h2 : hasDictIn C.K c = true) (h3 : findIn C.K (.ref c) nm = some attr) (h4 : noGet C.K attr = true) (h : Q y σ) : OP1 C n env ε (fun v => getAttr v nm ex) (.obj x) σ Q X := fun A g s v a D r => by
  rw [show v = _ from r]
  obtain ⟨es, m, I, rn, _⟩ := inst_at D.S hx hd
  have z := RNs.get nm rn
  rw [hl] at z
  obtain ⟨w, z1, z2⟩ := z
  exact get_value (D.S.K O) I (plainGet_of h1).1 (findObj_own h2 h3 h4 z1) (handed_of z2 hp) (ppt D _ z2 h)
theorem set_ns (O : C.Ok) {x c d : Addr} {fs : List (Str × V)} {nm : Str} {y : V} {v : Value} {QU : Unit → Shared → Prop} {E : Value → Shared → Prop} (D : Hd C g env ε σ s) (hx : σ x = some (.inst c d)) (hd : σ d = some (.ns fs)) (hr : RV s.heap y v) (hz : fs.length < 900)
    (h1 : findIn C.K (.ref c) "__setattr__" = some (some (.builtin "object.__setattr__"))) (h2 : plainOver C.K c = true) (h3 : takerIn C.K c nm = some none) (h4 : hasDictIn C.K c = true)
    (h : ∀ h' tk, Hd C g env ε (upd σ d (.ns (putA nm y fs))) { s with heap := h', toks := tk } → TK s.heap h' → QU () { s with heap := h', toks := tk }) : wpAny C.M A (setAttr (.ref x) nm v) QU E s := by
  obtain ⟨es, m, I, rn, ho⟩ := inst_at D.S hx hd
  have X := D.S.K O
  refine set_plain X I h1 ?_
  refine osa_open (s := { s with toks := s.toks + 1 }) X I h2 h3 fun b => ?_
  obtain ⟨cd, hc, hd'⟩ := any_some h4
  refine wpAny_bind (wpAny_pure (wpAny_bind (wpAny_bind (wpAny_loadPart I.at_ (wpAny_bind (Looks.here (s := { s with toks := s.toks + 1 }) (looks_clsIn X hc) ?_))))))
  rw [hd']
  refine wpAny_pure (a := some d) (wpAny_bind (wpAny_pure (wpAny_bind ?_)))
  unfold nsSet
  refine wpAny_bind (wpAny_bind (wpAny_askSetting (wpAny_pure (wpAny_bind (wpAny_mkText (wpAny_bind (wpAny_loadPart ho ?_)))))))
  have c0 : (!(es.toArray.any (·.key.isStr nm)) && es.toArray.any (·.refKey)) = false := by
    have : ∀ {fs : List (Str × V)} {es : List DictEntry}, RNs s.heap fs es → es.any (·.refKey) = false := by
      intro fs
      induction fs with
      | nil => intro es r; rw [show es = [] from r]; rfl
      | cons p fs ih => intro es r; obtain ⟨e, q, t, rfl, r0, _, r2⟩ := r; rw [List.any_cons, ih r2]; simp [DictEntry.refKey, r0]
    rw [List.any_toArray, List.any_toArray, this rn, Bool.and_false]
  dsimp only
  rw [aRefKeyMayBeTheName_at, c0]
  refine wpAny_updatePart ho ?_
  have hf : (Obj.putName nm (PyData.keyHash C.w.params nm) (.str nm (s.toks + 1)) v (dictOf es m)) = dictOf (putL nm (PyData.keyHash C.w.params nm) (.str nm (s.toks + 1)) v es) (putN nm es m) := putName_dict ..
  have hu := Heap.get?_update_self (h := s.heap) (Obj.putName nm (PyData.keyHash C.w.params nm) (.str nm (s.toks + 1)) v) ho (by rw [hf]; rfl)
  have rp : RNs s.heap (putA nm y fs) (putL nm (PyData.keyHash C.w.params nm) (.str nm (s.toks + 1)) v es) := RNs.put hr rn
  have hlen := putA_length nm y fs
  have hl2 := rp.length
  rw [hf] at hu
  refine wpAny_bind (wpAny_lookBehind hu (pastItsLine_dict (by rw [List.size_toArray, sizeLine_eq]; omega)) ?_)
  obtain ⟨D', k⟩ := D.set (h' := s.heap.update d _) (x := .ns (putA nm y fs)) (s.toks + 1 + 1) hd (Heap.SameBut.update ..) ho (NT.dict rfl) fun k => ⟨_, _, hu, rp.mono k⟩
  exact wpAny_pure (h _ _ D' k)
inductive SetP (C : Cx) (nm : Str) (y : V) (ε : Loc) (QS : Fl → Loc → Store → Prop) (ov : V) (σ₂ : Store) : Prop
  | mk (x c d : Addr) (fs : List (Str × V)) (e1 : ov = .obj x) (e2 : σ₂ x = some (.inst c d)) (e3 : σ₂ d = some (.ns fs)) (e4 : fs.length < 900)
      (e5 : findIn C.K (.ref c) "__setattr__" = some (some (.builtin "object.__setattr__"))) (e6 : plainOver C.K c = true) (e7 : takerIn C.K c nm = some none) (e8 : hasDictIn C.K c = true) (q : QS .next ε (upd σ₂ d (.ns (putA nm y fs))))
abbrev Qsp (C : Cx) (n : Nat) (env : Env) (ε : Loc) (o : Expr) (nm : Str) (QS : Fl → Loc → Store → Prop) (X : AX → Store → Prop) : V → Store → Prop := fun y σ₁ => EV C n env ε o σ₁ (SetP C nm y ε QS) X
theorem TS_SetAttr (O : C.Ok) {o e : Expr} {nm : Str} {p' pos : Pos} (h : EV C n env ε e σ (Qsp C n env ε o nm QS X) X)
    (hs : swapsWith e (some (.Attribute o nm p')) pos.line env = pure false := by rfl) : TS C n env ε (exec (.Assign [.Attribute o nm p'] e pos) env) σ QS X := fun A g s a D =>
  plainObj_wpAny_Assign_Attribute (h.use a D (fun v y σ₁ s₁ D₁ k₁ r₁ h₁ => h₁.use a D₁ (fun w z σ₂ s₂ D₂ k₂ r₂ ⟨x, c, d, fs, e1, e2, e3, e4, e5, e6, e7, e8, q⟩ => by
    subst e1
    rw [show w = _ from r₂]
    exact set_ns O D₂ e2 e3 (RV.mono k₂ _ _ r₁) e4 e5 e6 e7 e8 fun h' tk D' k => ⟨.next, ε, _, D', (k₁.trans k₂).trans k, rfl, q⟩) fun _ _ z => z.trans k₁) fun _ _ z => z) hs
def OPM (C : Cx) (n : Nat) (env : Env) (ε : Loc) (nm : Str) (pl : Sem Bool) (x : V) (σ : Store) (Q : Value → List V → Store → Prop) (X : AX → Store → Prop) : Prop :=
  ∀ A g s v, AOk C n g (some env) A → Hd C g env ε σ s → RV s.heap x v → wpAny C.M A (getMethod v nm pl) (fun fx s' => ∃ fs σ', Hd C g env ε σ' s' ∧ TK s.heap s'.heap ∧ RVs s'.heap fs fx.2 ∧ Q fx.1 fs σ') (PostX C g env s X) s
abbrev Qm2 (C : Cx) (n : Nat) (env : Env) (ε : Loc) (pos : Pos) (args : List Expr) (Q : V → Store → Prop) (X : AX → Store → Prop) : Value → List V → Store → Prop := fun f fs σ₂ => CW C n env ε pos f fs args σ₂ Q X
abbrev Qm1 (C : Cx) (n : Nat) (env : Env) (ε : Loc) (nm : Str) (pl : Sem Bool) (pos : Pos) (args : List Expr) (Q : V → Store → Prop) (X : AX → Store → Prop) : V → Store → Prop := fun x σ₁ => OPM C n env ε nm pl x σ₁ (Qm2 C n env ε pos args Q X) X
theorem EV_Method {o : Expr} {nm : Str} {apos pos : Pos} {args : List Expr} {pl : Sem Bool} (h : EV C n env ε o σ (Qm1 C n env ε nm pl pos args Q X) X)
    (he : eval (.Call (.Attribute o nm apos) args [] pos) env = (do
      let ov ← eval o env
      standAt apos.atName
      let (f, first) ← holding [ov] (getMethod ov nm pl)
      callWith pos f first (backTo pos (starEach args env)) []) := by rfl) : EV C n env ε (.Call (.Attribute o nm apos) args [] pos) σ Q X := fun A g s a D => by
  rw [he]
  refine wpAny_bind (h.use a D (fun v x σ₁ s₁ D₁ k₁ r₁ h₁ => wpAny_bind (wpAny_standAt (wpAny_bind (wpAny_holding (wpAny_mono (h₁ A g s₁ v a D₁ r₁) (fun fx s₂ ⟨fs, σ₂, D₂, k₂, r₂, q⟩ => ?_) fun _ _ z => z.trans k₁))))) fun _ _ z => z)
  exact wpAny_mono (q A g s₂ fx.2 a D₂ r₂) (fun _ _ z => z.trans (k₁.trans k₂)) fun _ _ z => z.trans (k₁.trans k₂)
theorem meth_inst (O : C.Ok) {x c d f : Addr} {fs : List (Str × V)} {nm : Str} {pl : Sem Bool} {QM : Value → List V → Store → Prop} (hx : σ x = some (.inst c d)) (hd : σ d = some (.ns fs)) (hl : fs.lookup nm = none)
    (h1 : plainGet C.K c nm = true) (h2 : findIn C.K (.ref c) nm = some (some (.ref f))) (h3 : isFn C.K (.ref f) = true) (h : QM (.ref f) [.obj x] σ) : OPM C n env ε nm pl (.obj x) σ QM X := fun A g s v a D r => by
  rw [show v = _ from r]
  obtain ⟨es, m, I, rn, _⟩ := inst_at D.S hx hd
  have z := RNs.get nm rn
  rw [hl] at z
  exact method_fn (D.S.K O) I (plainGet_of h1).1 (plainGet_of h1).2 h2 (beq_iff_eq.mp h3) (by show (lookIn nm (dictOf es m)).map _ = _; rw [lookIn_dict, z]; rfl) ⟨[.obj x], σ, D, TK.refl _, RVs.one rv_obj, h⟩
end
end Mine
end
section
open PySem PySem.W PyProof.Rows PySem.Calls PySem.Spec
set_option Elab.async false
set_option maxRecDepth 100000
set_option linter.unusedVariables false
namespace Mine
section
variable {C : Cx} {g : Gh} {σ σ' : Store} {s s' : Shared} {env : Env} {ε : Loc} {n : Nat} {A : Around} {Q : V → Store → Prop} {X : AX → Store → Prop} {QB : Bool → Store → Prop} {QS : Fl → Loc → Store → Prop}
theorem AOk.make {c : Addr} {vs : List Value} (a : AOk C (n + 1) g none A) : AOk C n g none (A.under (.builtin "type.__call__" ⟨.ref c :: vs, []⟩)) := by
  obtain ⟨h1, h2, h3, h4⟩ := a
  refine ⟨.inl (h1.resolve_right (by omega)), ?_, ?_, h4⟩
  · show A.depth + 1 + _ < _; omega
  · have : (A.under (.builtin "type.__call__" ⟨.ref c :: vs, []⟩)).units = A.units + (Code.builtin "type.__call__" ⟨.ref c :: vs, []⟩).cUnits := rfl
    have e : (Code.builtin "type.__call__" ⟨.ref c :: vs, []⟩).cUnits ≤ 10 := by
      exact Nat.le_of_ble_eq_true rfl
    omega
theorem CALL_make (O : C.Ok) {c fI : Addr} {args : List V} (hm : makesIn C.K c = true) (hi : findIn C.K (.ref c) "__init__" = some (some (.ref fI))) (hf : isFn C.K (.ref fI) = true)
    (h : ∀ x d, σ x = none → σ d = none → x ≠ d → CALL C n (.ref fI) (.obj x :: args) (upd (upd σ d (.ns [])) x (.inst c d)) (fun r σ' => r = .none ∧ Q (.obj x) σ') X) : CALL C (n + 1) (.ref c) args σ Q X := fun A g s vs a S r => by
  obtain ⟨hh, gs, dr, t, os⟩ := s
  have K := S.K O
  refine make_core (makes_of K hm) (looks_findIn K hi) (fun self => bind_fn K self (beq_iff_eq.mp hf)) (.inl rfl) ?_
  have f1 := S.fresh (a := hh.objs.size) (Nat.le_refl _)
  have f2 := S.fresh (a := hh.objs.size + 1) (Nat.le_succ _)
  have S1 := S.push emptyDict t
  have S2 := S1.push (instObj c hh.objs.size) t
  have e1 : (hh.push emptyDict).get? hh.objs.size = some emptyDict := Heap.get?_push_size _ rfl
  have e2 : ((hh.push emptyDict).push (instObj c hh.objs.size)).get? (hh.objs.size + 1) = some (instObj c hh.objs.size) := by
    have := Heap.get?_push_size (hh.push emptyDict) (o := instObj c hh.objs.size) rfl
    rwa [Heap.size_push] at this
  have S3 := S2.add (a := hh.objs.size) (o := .ns []) f1.2.1 f1.2.2 ⟨[], 0, Heap.get?_push_of_some _ e1, rfl⟩
  have S4 := S3.add (a := hh.objs.size + 1) (o := .inst c hh.objs.size) f2.2.1 f2.2.2 e2
  have k : TK hh ((hh.push emptyDict).push (instObj c hh.objs.size)) := (TK.push _ _).trans (TK.push _ _)
  refine codeAny_mono (h _ _ f2.1 f1.1 (Nat.succ_ne_self _) _ g _ (.ref (hh.objs.size + 1) :: vs) a.make S4 (RVs.cons rv_obj (RVs.mono k _ _ r))) fun r s' z => ?_
  rcases r with e | (_ | _ | _ | v)
  · obtain ⟨x, σ', b, p, q, r, z⟩ := z; exact ⟨x, σ', b, p, k.trans q, r, z⟩
  · exact z
  · exact z
  · exact z
  · obtain ⟨x, σ', p, q, r, rfl, z⟩ := z; exact ⟨r, .obj _, σ', p, k.trans q, rv_obj, z⟩
end
end Mine
end
section
open PySem PySem.W PyProof.Rows PySem.Calls PySem.Spec
set_option Elab.async false
set_option maxRecDepth 100000
set_option linter.unusedVariables false
namespace Mine
structure ItK (C : Cx) (it : Addr) (Inv : Store → Prop) (P : List V → Obj → Heap → Prop) : Prop where
  mono : ∀ r o h h', TK h h' → P r o h → P r o h'
  nx : ∀ r o h, P r o h → (∃ vs, o.data = .fields vs) ∧ ∃ n, o.cls = .type n ∧ n ≠ "traceback"
  step : ∀ {A : Around} {g : Gh} {σ : Store} {s : Shared} {x : V} {r : List V} {o : Obj} {QQ : Option Value → Shared → Prop} {E : Value → Shared → Prop}, A.handled = none → St C g σ s → Inv σ → s.heap.get? it = some o → P (x :: r) o s.heap →
    (∀ v s₁ h' o' tk, St C g σ s₁ → TK s.heap s₁.heap → s₁.heap.get? it = some o → s.heap.objs.size ≤ s₁.heap.objs.size → (∀ b ob, s.heap.get? b = some ob → s₁.heap.get? b = some ob) → RV h' x v → Heap.SameBut it s₁.heap h' → h'.get? it = some o' → P r o' h' → QQ (some v) { s₁ with heap := h', toks := tk }) → wpAny C.M A (pyNext (.ref it)) QQ E s
  stop : ∀ {A : Around} {g : Gh} {σ : Store} {s : Shared} {o : Obj} {QQ : Option Value → Shared → Prop} {E : Value → Shared → Prop}, A.handled = none → St C g σ s → Inv σ → s.heap.get? it = some o → P [] o s.heap →
    (∀ h' tk, Heap.ExtBut it s.heap h' → QQ none { s with heap := h', toks := tk }) → wpAny C.M A (pyNext (.ref it)) QQ E s
  self : ∀ {A : Around} {s : Shared} {r : List V} {o : Obj} {QQ : Value → Shared → Prop} {E : Value → Shared → Prop}, s.heap.get? it = some o → P r o s.heap → QQ (.ref it) s → wpAny C.M A (pyIter (.ref it)) QQ E s
  go : ∀ {A : Around} {g : Gh} {σ : Store} {s : Shared} {r : List V} {o : Obj} {target : Expr} {v : Value} {QQ : Unit → Shared → Prop} {E : Value → Shared → Prop}, St C g σ s → s.heap.get? it = some o → P r o s.heap →
    (∀ h' o', Heap.SameBut it s.heap h' → h'.get? it = some o' → P r o' h' → QQ () { s with heap := h' }) → wpAny C.M A (letOwnedTupleGo target (.ref it) v) QQ E s
def TA (C : Cx) (n : Nat) (env : Env) (ε : Loc) (t : Value → Sem Unit) (x : V) (σ : Store) (QA : Loc → Store → Prop) (X : AX → Store → Prop) : Prop :=
  ∀ A g s v, AOk C n g (some env) A → Hd C g env ε σ s → RV s.heap x v → wpAny C.M A (t v) (fun _ s' => PostA C g env s QA s') (PostX C g env s X) s
section
variable {C : Cx} {g : Gh} {σ σ' : Store} {s s' : Shared} {env : Env} {ε : Loc} {n : Nat} {A : Around} {Q : V → Store → Prop} {X : AX → Store → Prop} {QB : Bool → Store → Prop} {QS : Fl → Loc → Store → Prop} {QA : Loc → Store → Prop}
theorem TA_store {x : Str} {y : V} (h : SN C n env ε x y σ (fun _ ε' σ' => QA ε' σ') X) : TA C n env ε (storeName env x) y σ QA X := fun A g s v a D r =>
  wpAny_mono (h A g s v a D r) (fun _ s' ⟨x, ε', σ', D', k, _, q⟩ => ⟨ε', σ', D', k, q⟩) fun _ _ z => z
abbrev Qta (QA : Loc → Store → Prop) : Fl → Loc → Store → Prop := fun _ ε' σ' => QA ε' σ'
theorem TA_Name {x : Str} {p : Pos} {y : V} (h : SN C n env ε x y σ (Qta QA) X) : TA C n env ε (assign (.Name x p) env) y σ QA X := fun A g s v a D r =>
  wpAny_assign_Name (TA_store h A g s v a D r)
theorem Hd.unghost {it : Addr} {o : Obj} (D : Hd C (gadd g it o) env ε σ s) (hg : g it = none) (hL : it ≠ env.locals) : Hd C g env ε σ s := by
  refine ⟨D.S.ghostLess fun b x e => ?_, ?_, D.F.hL, D.F.σL, D.F.ns⟩
  · have : b ≠ it := fun q => by rw [q, hg] at e; cases e
    simp [gadd, this, e]
  · have := D.F.gL
    simpa [gadd, Ne.symm hL] using this
theorem Hd.toghost {it : Addr} {o : Obj} (D : Hd C g env ε σ s) (hσ : σ it = none) (hH : C.H.get? it = none) (hL : it ≠ env.locals) (ho : s.heap.get? it = some o) (hx : NX o ∧ NT o) : Hd C (gadd g it o) env ε σ s :=
  ⟨D.S.ghost hσ hH ho hx, by simp [gadd, Ne.symm hL]; exact D.F.gL, D.F.hL, D.F.σL, D.F.ns⟩
theorem PostX.unghost {it : Addr} {o : Obj} {e : Value} {s₀ : Shared} (h : PostX C (gadd g it o) env s₀ X e s) (hg : g it = none) (hL : it ≠ env.locals) : PostX C g env s₀ X e s := by
  obtain ⟨ax, σ', ε', b, D, k, rx, q⟩ := h
  refine ⟨ax, σ', ε', b, D.unghost hg hL, k, ?_, q⟩
  obtain ⟨a, oe, vs, h1, h2, h3, h4, r1, r2, r3, r4, r5, r6, r7⟩ := rx.ex
  refine ⟨a, oe, vs, h1, h2, h3, ?_, r1, r2, r3, r4, r5, r6, r7⟩
  by_cases ha : a = it
  · rw [ha]; exact hg
  · simpa [gadd, ha] using h4
theorem Hd.ext (D : Hd C g env ε σ s) {it : Addr} {o : Obj} {h' : Heap} (tk : Nat) (hσ : σ it = none) (hg : g it = none) (hH : C.H.get? it = none) (hL : it ≠ env.locals) (ho : s.heap.get? it = some o) (ht : NT o) (hs : Heap.ExtBut it s.heap h') :
    Hd C g env ε σ { s with heap := h', toks := tk } ∧ TK s.heap h' := by
  have k : TK s.heap h' := fun b x e c ⟨xs, m, d⟩ => hs b x (fun q => by subst q; rw [ho] at e; cases e; exact ht xs m d c) e
  refine ⟨⟨⟨fun b x e => hs b x (fun q => by rw [q, hH] at e; cases e) (D.S.base b x e), fun b x e => let ⟨o', q, z⟩ := D.S.gs b x e; ⟨o', hs b o' (fun q => by rw [q, hg] at e; cases e) q, z⟩, D.S.gt, fun b x e => ?_, D.S.gσ, D.S.hσ, D.S.gh, D.S.gens, D.S.os⟩,
    D.F.keeps (h' := h') (fun o e => hs _ _ (Ne.symm hL) e) k rfl D.F.σL⟩, k⟩
  obtain ⟨ob, q⟩ := (D.S.sim b x e).there
  have hb : b ≠ it := fun z => by rw [z, hσ] at e; cases e
  exact (D.S.sim b x e).mono_of k ((hs b ob hb q).trans q.symm)
def ForW (C : Cx) (n : Nat) (env : Env) (target : Expr) (body : List Stmt) (Inv : Store → Prop) (QS : Fl → Loc → Store → Prop) (X : AX → Store → Prop) : List V → Loc → Store → Prop
  | [], ε, σ => QS .next ε σ
  | x :: r, ε, σ => TA C n env ε (assign target env) x σ (fun ε₁ σ₁ => TS C n env ε₁ (execs body env) σ₁ (fun fl ε₂ σ₂ => match fl with
      | .next => Inv σ₂ ∧ ForW C n env target body Inv QS X r ε₂ σ₂
      | .cont => Inv σ₂ ∧ ForW C n env target body Inv QS X r ε₂ σ₂
      | .brk => QS .next ε₂ σ₂
      | .ret v => QS (.ret v) ε₂ σ₂) X) X
inductive ForI (C : Cx) (n : Nat) (g : Gh) (env : Env) (s : Shared) (target : Expr) (body : List Stmt) (it : Addr) (P : List V → Obj → Heap → Prop) (Inv : Store → Prop) (QS : Fl → Loc → Store → Prop) (X : AX → Store → Prop) (k : Nat) (s₁ : Shared) : Prop
  | mk (r : List V) (ε₁ : Loc) (σ₁ : Store) (o₁ : Obj) (e0 : k = r.length) (e1 : Hd C g env ε₁ σ₁ s₁) (e2 : TK s.heap s₁.heap) (e3 : s₁.heap.get? it = some o₁) (e4 : P r o₁ s₁.heap) (e5 : Inv σ₁) (e6 : σ₁ it = none) (e7 : ForW C (n + 1) env target body Inv QS X r ε₁ σ₁)
theorem for_gen {it : Addr} {P : List V → Obj → Heap → Prop} {Inv : Store → Prop} {target : Expr} {body : List Stmt} {items : List V} {o : Obj} (K : ItK C it Inv P) (hA : AOk C (n + 1) g (some env) A) (hf : env.frame = some env.locals) (D : Hd C g env ε σ s) (hi : Inv σ)
    (hσ : σ it = none) (hg : g it = none) (hH : C.H.get? it = none) (hL : it ≠ env.locals) (ho : s.heap.get? it = some o) (hP : P items o s.heap) (h : ForW C (n + 1) env target body Inv QS X items ε σ) :
    codeAny C.M A (.forLoop target (.ref it) body [] env) (fun r s' => match r with | .ok f => PostS C g env s QS f s' | .error e => cameBackBy C.M A env (PostX C g env s X) e s') s := by
  have fin : ∀ e s', PostX C g env s X e s' → notedBy C.M A env (fun e s' => cameBackBy C.M A env (PostX C g env s X) e s') e s' := fun e s' z =>
    noted_rx hA hf z fun s'' z' ⟨ax, σ', ε', D', k', rx, q⟩ => cameBack_rx D' k' rx q fun _ z => z
  refine codeAny_forLoop_any (ForI C n g env s target body it P Inv QS X) ?_ items.length
    ⟨items, ε, σ, o, rfl, D, TK.refl _, ho, hP, hi, hσ, h⟩
  rintro k s₁ ⟨r, ε₁, σ₁, o₁, rfl, D₁, k₁, ho₁, hP₁, hi₁, hσ₁, hw⟩
  have nt : ∀ {r o h}, P r o h → NX o ∧ NT o := fun p => by
    obtain ⟨⟨vs, d⟩, nm, c, ne⟩ := K.nx _ _ _ p
    exact ⟨fun _ _ => ⟨nm, c, ne⟩, NT.fields d⟩
  cases r with
  | nil =>
    refine K.stop hA.hn D₁.S hi₁ ho₁ hP₁ fun h' tk hs => ?_
    obtain ⟨D₂, k₂⟩ := D₁.ext tk hσ₁ hg hH hL ho₁ (nt hP₁).2 hs
    exact wpAny_execs_nil ⟨.next, ε₁, σ₁, D₂, k₁.trans k₂, rfl, hw⟩
  | cons x r =>
    refine K.step hA.hn D₁.S hi₁ ho₁ hP₁ fun v s₁' h' o' tk S₁' kk hoo hsz hkk rv hs ho₂ hP₂ => ?_
    have D₁' : Hd C g env ε₁ σ₁ s₁' := ⟨S₁', by
      obtain ⟨m, ⟨ob, es, ep, q', r'⟩, z⟩ := D₁.F.ns
      exact ⟨D₁.F.gL, D₁.F.hL, D₁.F.σL, m, ⟨ob, es, ep, hkk _ _ q', r'⟩, fun x V hx => let ⟨v, a, b⟩ := z x V hx; ⟨v, a, RV.mono kk _ _ b⟩⟩⟩
    obtain ⟨D₂, k₂⟩ := D₁'.other tk hσ₁ hg hH hL hs hoo (nt hP₁).2
    refine K.go (s := { s₁' with heap := h', toks := tk }) D₂.S ho₂ hP₂ fun h'' o'' hs' ho₃ hP₃ => ?_
    obtain ⟨D₃, k₃⟩ := D₂.other tk hσ₁ hg hH hL hs' ho₂ (nt hP₂).2
    have D₄ := D₃.toghost hσ₁ hH hL ho₃ (nt hP₃)
    have a' := hA.gadd (a := it) (o := o'') hg
    have kx : TK s.heap h'' := ((k₁.trans kk).trans k₂).trans k₃
    refine wpAny_mono (hw A _ _ v a' D₄ (RV.mono k₃ _ _ rv)) (fun _ s₅ ⟨ε₅, σ₅, D₅, k₅, h₅⟩ => ?_) fun e s' z => fin e s' ((z.unghost hg hL).trans kx)
    refine wpAny_mono (h₅ A _ s₅ a' D₅) (fun f s₆ ⟨fl, ε₆, σ₆, D₆, k₆, rf, h₆⟩ => ?_) fun e s' z => fin e s' ((z.unghost hg hL).trans (kx.trans k₅))
    have D₇ := D₆.unghost hg hL
    have hit : s₆.heap.get? it = some o'' := by
      obtain ⟨o₆, q, se⟩ := D₆.S.gs it o'' (by simp [gadd])
      obtain ⟨⟨vs, d⟩, _⟩ := K.nx _ _ _ hP₃
      rw [q, se.eq d]
    have hσ₆ : σ₆ it = none := by
      cases q : σ₆ it with
      | none => rfl
      | some ob => have := D₆.S.gσ it (by rw [q]; exact nofun); simp [gadd] at this
    have k₇ : TK s.heap s₆.heap := (kx.trans k₅).trans k₆
    cases fl with
    | next => rw [show f = _ from rf]; exact ⟨r.length, Nat.lt_succ_self _, r, ε₆, σ₆, o'', rfl, D₇, k₇, hit, K.mono _ _ _ _ (k₅.trans k₆) hP₃, h₆.1, hσ₆, h₆.2⟩
    | cont => rw [show f = _ from rf]; exact ⟨r.length, Nat.lt_succ_self _, r, ε₆, σ₆, o'', rfl, D₇, k₇, hit, K.mono _ _ _ _ (k₅.trans k₆) hP₃, h₆.1, hσ₆, h₆.2⟩
    | brk => rw [show f = _ from rf]; exact ⟨.next, ε₆, σ₆, D₇, k₇, rfl, h₆⟩
    | ret y => obtain ⟨w, rfl, rw'⟩ := rf; exact ⟨.ret y, ε₆, σ₆, D₇, k₇, ⟨w, rfl, rw'⟩, h₆⟩
def Goes (C : Cx) (x : V) (items : List V) (Inv : Store → Prop) (σ : Store) : Prop :=
  Inv σ ∧ ∀ {A : Around} {g : Gh} {env : Env} {ε : Loc} {s : Shared} {v : Value} {QQ : Value → Shared → Prop} {E : Value → Shared → Prop}, A.units < cLine → Hd C g env ε σ s → RV s.heap x v →
    (∀ it P o h' tk, ItK C it Inv P → Hd C g env ε σ { s with heap := h', toks := tk } → TK s.heap h' → σ it = none → g it = none → C.H.get? it = none → it ≠ env.locals → h'.get? it = some o → P items o h' → QQ (.ref it) { s with heap := h', toks := tk }) →
    wpAny C.M A (pyIter v) QQ E s
inductive ItP (C : Cx) (QI : List V → (Store → Prop) → Store → Prop) (x : V) (σ₁ : Store) : Prop
  | mk (items : List V) (Inv : Store → Prop) (σ₂ : Store) (h1 : Goes C x items Inv σ₁) (h2 : ∀ a o, σ₂ a = some o → σ₁ a = some o) (h3 : Inv σ₂) (h4 : QI items Inv σ₂)
abbrev Qfi (C : Cx) (n : Nat) (env : Env) (ε : Loc) (target : Expr) (body : List Stmt) (QS : Fl → Loc → Store → Prop) (X : AX → Store → Prop) : List V → (Store → Prop) → Store → Prop := fun items Inv σ₂ => ForW C (n + 1) env target body Inv QS X items ε σ₂
theorem TS_For {target iter : Expr} {body : List Stmt} {pos : Pos} (hf : env.frame = some env.locals) (h : EV C (n + 1) env ε iter σ (ItP C (Qfi C n env ε target body QS X)) X)
    (hs : ∀ x, foldedSetIterable iter env x = pure x := by intro _; rfl) : TS C (n + 1) env ε (exec (.For target iter body [] pos) env) σ QS X := fun A g s a D =>
  wpAny_For (h.use a D (fun v x σ₁ s₁ D₁ k₁ r₁ ⟨items, Inv, σ₂, ⟨hi, go⟩, hsub, hi₂, hw⟩ => go a.urm D₁ r₁ fun it P o h' tk K D₂ k₂ e1 e2 e3 e4 e5 e6 =>
    codeAny_mono (for_gen K a hf (D₂.weaken hsub) hi₂ (by
      cases q : σ₂ it with
      | none => rfl
      | some ob => rw [hsub _ _ q] at e1; cases e1) e2 e3 e4 e5 e6 hw) fun r s' z => by
      rcases r with e | f
      · exact wpAny_mono z (fun _ _ q => q.trans (k₁.trans k₂)) fun _ _ q => q.trans (k₁.trans k₂)
      · exact z.trans (k₁.trans k₂)) fun _ _ z => z) hs
end
end Mine
end
section
open PySem PySem.W PyProof.Rows PySem.Calls PySem.Spec
set_option Elab.async false
set_option maxRecDepth 100000
set_option linter.unusedVariables false
namespace Mine
theorem tk_same {h h' : Heap} {a : Addr} {o : Obj} (hs : Heap.SameBut a h h') (ho : h.get? a = some o) (ht : NT o) : TK h h' :=
  fun b x e c ⟨xs, m, d⟩ => (hs.2 b fun q => by subst q; rw [ho] at e; cases e; exact ht xs m d c).trans e
theorem rvs_at {h : Heap} {items : List V} {vs : List Value} {x : V} {r : List V} {i : Nat} (q : RVs h items vs) (e : x :: r = items.drop i) : ∃ v, vs[i]? = some v ∧ RV h x v ∧ r = items.drop (i + 1) := by
  have e1 : items[i]? = some x := by
    have : (items.drop i)[0]? = some x := by rw [← e]; rfl
    simpa using this
  obtain ⟨v, e2, e3⟩ := q.get e1
  refine ⟨v, e2, e3, ?_⟩
  have : (items.drop i).tail = items.drop (i + 1) := by rw [List.tail_drop]
  rw [← this, ← e]; rfl
theorem nil_at {h : Heap} {items : List V} {vs : List Value} {i : Nat} (q : RVs h items vs) (e : [] = items.drop i) : vs.toArray[i]? = none := by
  have := q.length
  have e' := congrArg List.length e
  simp at e' ⊢
  omega
theorem go_plain {C : Cx} {it : Addr} {P : List V → Obj → Heap → Prop} {nm : String} (hn : (["enumerate", "zip", "dict_itemiterator", "dict_reverseitemiterator", "odict_iterator", "itertools.zip_longest", "itertools.pairwise"].contains nm) = false)
    (hc : ∀ r o h, P r o h → o.cls = .type nm ∧ ∃ vs, o.data = .fields vs)
    {A : Around} {g : Gh} {σ : Store} {s : Shared} {r : List V} {o : Obj} {target : Expr} {v : Value} {QQ : Unit → Shared → Prop} {E : Value → Shared → Prop} (S : St C g σ s) (ho : s.heap.get? it = some o) (hp : P r o s.heap)
    (h : ∀ h' o', Heap.SameBut it s.heap h' → h'.get? it = some o' → P r o' h' → QQ () { s with heap := h' }) : wpAny C.M A (letOwnedTupleGo target (.ref it) v) QQ E s := by
  have fin : QQ () s := h s.heap o (Heap.SameBut.refl _ _) ho hp
  obtain ⟨c, vs, d⟩ := hc r o _ hp
  unfold letOwnedTupleGo
  split
  all_goals first
    | exact wpAny_pure fin
    | skip
  all_goals (
    split
    · rename_i r' a' e
      cases e
      refine wpAny_bind (wpAny_load ho ?_)
      rw [c, d]
      dsimp only
      rw [hn, Bool.false_and]
      exact wpAny_pure fin
    · exact wpAny_pure fin)
section
variable {C : Cx} {g : Gh} {σ σ' : Store} {s s' : Shared} {env : Env} {ε : Loc} {n : Nat} {A : Around} {Q : V → Store → Prop} {X : AX → Store → Prop} {QB : Bool → Store → Prop} {QS : Fl → Loc → Store → Prop} {QA : Loc → Store → Prop}
def PList (l : Addr) (items r : List V) (o : Obj) (_ : Heap) : Prop := ∃ i : Nat, o.cls = .type "list_iterator" ∧ o.data = .fields #[.ref l, .int i 0] ∧ r = items.drop i
theorem itk_list {it l : Addr} {items : List V} (hne : it ≠ l) : ItK C it (fun σ => σ l = some (.list items)) (PList l items) where
  mono := fun _ _ _ _ _ p => p
  nx := fun _ _ _ ⟨i, c, d, _⟩ => ⟨⟨_, d⟩, _, c, by decide⟩
  step := fun {A g σ s x r o QQ E} hh S hi ho ⟨i, c, d, e⟩ h => by
    obtain ⟨vs, hl, hv⟩ := S.sim l _ hi
    obtain ⟨v, e1, e2, e3⟩ := rvs_at hv e
    refine wpAny_pyNext_list_item ⟨o, ho, c, d⟩ hl.isList (by simpa using e1) fun h' ⟨o', ho', c', d'⟩ hs => ?_
    have k := tk_same hs ho (NT.fields d)
    exact h v s h' o' s.toks S (TK.refl _) ho (Nat.le_refl _) (fun _ _ z => z) (RV.mono k _ _ e2) hs ho' ⟨i + 1, c', by simpa using d', e3⟩
  stop := fun {A g σ s o QQ E} hh S hi ho ⟨i, c, d, e⟩ h => by
    obtain ⟨vs, hl, hv⟩ := S.sim l _ hi
    exact wpAny_pyNext_list_end hh ⟨o, ho, c, d⟩ hl.isList (nil_at hv e) fun h' hs => h h' s.toks hs
  self := fun ho ⟨i, c, d, _⟩ q => wpAny_pyIter_listiter ⟨_, ho, c, d⟩ q
  go := fun S ho hp h => go_plain (nm := "list_iterator") (by decide) (fun _ _ _ ⟨_, c, d, _⟩ => ⟨c, _, d⟩) S ho hp h
theorem goes_list {l : Addr} {items : List V} (hl : σ l = some (.list items)) : Goes C (.obj l) items (fun σ => σ l = some (.list items)) σ := ⟨hl, fun {A g env ε s v QQ E} hu D r h => by
  rw [show v = _ from r]
  obtain ⟨vs, hls, hv⟩ := D.S.sim l _ hl
  obtain ⟨f1, f2, f3, f4⟩ := D.fresh (Nat.le_refl _)
  refine wpAny_pyIter_list hls.isList (h s.heap.objs.size _ { cls := .type "list_iterator", data := .fields #[.ref l, .int 0 0] } _ s.toks (itk_list (items := items) fun q => ?_) (D.push _ _) (TK.push _ _) f1 f2 f3 f4 (Heap.get?_push_size _ rfl) ⟨0, rfl, rfl, rfl⟩)
  rw [q, hl] at f1; cases f1⟩
def PTup (t : Addr) (items : List V) (r : List V) (o : Obj) (h : Heap) : Prop := ∃ (i : Nat) (vs : List Value), o.cls = .type "tuple_iterator" ∧ o.data = .fields #[.ref t, .int i 0] ∧ r = items.drop i ∧ IsTup h t vs.toArray ∧ RVs h items vs
theorem itk_tup {it t : Addr} {items : List V} : ItK C it (fun _ => True) (PTup t items) where
  mono := fun _ _ _ _ k ⟨i, vs, c, d, e, q, r⟩ => ⟨i, vs, c, d, e, k.tup q, RVs.mono k _ _ r⟩
  nx := fun _ _ _ ⟨i, _, c, d, _⟩ => ⟨⟨_, d⟩, _, c, by decide⟩
  step := fun {A g σ s x r o QQ E} hh S hi ho ⟨i, vs, c, d, e, q, hv⟩ h => by
    obtain ⟨v, e1, e2, e3⟩ := rvs_at hv e
    refine wpAny_pyNext_tuple_item ⟨o, ho, c, d⟩ q (by simpa using e1) fun h' ⟨o', ho', c', d'⟩ hs => ?_
    have k := tk_same hs ho (NT.fields d)
    exact h v s h' o' s.toks S (TK.refl _) ho (Nat.le_refl _) (fun _ _ z => z) (RV.mono k _ _ e2) hs ho' ⟨i + 1, vs, c', by simpa using d', e3, k.tup q, RVs.mono k _ _ hv⟩
  stop := fun {A g σ s o QQ E} hh S hi ho ⟨i, vs, c, d, e, q, hv⟩ h => wpAny_pyNext_tuple_end hh ⟨o, ho, c, d⟩ q (nil_at hv e) fun h' hs => h h' s.toks hs
  self := fun ho ⟨i, _, c, d, _⟩ q => wpAny_pyIter_tupleiter ⟨_, ho, c, d⟩ q
  go := fun S ho hp h => go_plain (nm := "tuple_iterator") (by decide) (fun _ _ _ ⟨_, _, c, d, _⟩ => ⟨c, _, d⟩) S ho hp h
theorem goes_tup {items : List V} : Goes C (.tup items) items (fun _ => True) σ := ⟨trivial, fun {A g env ε s v QQ E} hu D r h => by
  obtain ⟨t, vs, rfl, q, hv⟩ := r
  obtain ⟨f1, f2, f3, f4⟩ := D.fresh (Nat.le_refl _)
  have k := TK.push s.heap { cls := .type "tuple_iterator", data := .fields #[.ref t, .int 0 0] }
  exact wpAny_pyIter_tuple q (h s.heap.objs.size _ _ _ s.toks itk_tup (D.push _ _) k f1 f2 f3 f4 (Heap.get?_push_size _ rfl) ⟨0, vs, rfl, rfl, rfl, k.tup q, RVs.mono k _ _ hv⟩)⟩
def octs (b : List UInt8) : List V := b.map fun c => .int (c.toNat : Int)
def PBytes (b : Array UInt8) (r : List V) (o : Obj) (_ : Heap) : Prop := ∃ (i : Nat) (t : Tok), o.cls = .type "bytes_iterator" ∧ o.data = .fields #[.bytes b t, .int i 0] ∧ r = octs (b.toList.drop i)
theorem itk_bytes {it : Addr} {b : Array UInt8} : ItK C it (fun _ => True) (PBytes b) where
  mono := fun _ _ _ _ _ p => p
  nx := fun _ _ _ ⟨i, _, c, d, _⟩ => ⟨⟨_, d⟩, _, c, by decide⟩
  step := fun {A g σ s x r o QQ E} hh S hi ho ⟨i, t, c, d, e⟩ h => by
    cases q : b.toList.drop i with
    | nil => rw [q] at e; cases e
    | cons y l =>
      rw [q] at e
      have hx : b[i]? = some y := by
        have : (b.toList.drop i)[0]? = some y := by rw [q]; rfl
        simpa using this
      have hl : l = b.toList.drop (i + 1) := by rw [← List.tail_drop, q]; rfl
      cases e
      refine KBw.next_item ⟨o, ho, c, d⟩ hx fun h' ⟨o', ho', c', d'⟩ hs => ?_
      have k := tk_same hs ho (NT.fields d)
      exact h _ s h' o' _ S (TK.refl _) ho (Nat.le_refl _) (fun _ _ z => z) rv_int hs ho' ⟨i + 1, t, c', by simpa using d', by rw [← hl]; rfl⟩
  stop := fun {A g σ s o QQ E} hh S hi ho ⟨i, t, c, d, e⟩ h => KBw.next_end hh ⟨o, ho, c, d⟩ (by
    have := congrArg List.length e
    simp [octs] at this ⊢
    omega) fun h' hs => h h' s.toks hs
  self := fun ho ⟨i, _, c, d, _⟩ q => KBw.pyIter_self ⟨_, ho, c, d⟩ q
  go := fun S ho hp h => go_plain (nm := "bytes_iterator") (by decide) (fun _ _ _ ⟨_, _, c, d, _⟩ => ⟨c, _, d⟩) S ho hp h
theorem goes_bytes {b : Array UInt8} : Goes C (.bytes b) (octs b.toList) (fun _ => True) σ := ⟨trivial, fun {A g env ε s v QQ E} hu D r h => by
  obtain ⟨t, rfl⟩ := r
  obtain ⟨f1, f2, f3, f4⟩ := D.fresh (Nat.le_refl _)
  exact KBw.pyIter_bytes (h s.heap.objs.size _ _ _ s.toks itk_bytes (D.push _ _) (TK.push _ _) f1 f2 f3 f4 (Heap.get?_push_size _ rfl) ⟨0, t, rfl, rfl, by simp⟩)⟩
def upto (a c : Int) : Nat → List V
  | 0 => []
  | k + 1 => .int a :: upto (a + c) c k
def PRange (c : Int) (r : List V) (o : Obj) (_ : Heap) : Prop := ∃ (a : Int) (k : Nat), o = { cls := .type "range_iterator", data := .fields #[rawInt a, rawInt k, rawInt c] } ∧ r = upto a c k
theorem itk_range {it : Addr} {c : Int} : ItK C it (fun _ => True) (PRange c) where
  mono := fun _ _ _ _ _ p => p
  nx := fun _ _ _ ⟨a, k, e, _⟩ => by subst e; exact ⟨⟨_, rfl⟩, _, rfl, by decide⟩
  step := fun {A g σ s x r o QQ E} hh S hi ho ⟨a, k, e, q⟩ h => by
    subst e
    cases k with
    | zero => cases q
    | succ k =>
      cases q
      refine wpAny_pyNext_range_item (left := ((k + 1 : Nat) : Int)) ho (by omega) fun h' hit hs => ?_
      exact h _ s h' _ _ S (TK.refl _) ho (Nat.le_refl _) (fun _ _ z => z) rv_int hs hit ⟨a + c, k, by simp, rfl⟩
  stop := fun {A g σ s o QQ E} hh S hi ho ⟨a, k, e, q⟩ h => by
    subst e
    cases k with
    | succ k => cases q
    | zero => exact wpAny_pyNext_range_end hh ho (Int.le_refl _) fun h' hs => h h' s.toks hs
  self := fun ho ⟨a, k, e, _⟩ q => by subst e; exact wpAny_pyIter_rangeiter ho q
  go := fun S ho hp h => go_plain (nm := "range_iterator") (by decide) (fun _ _ _ ⟨_, _, e, _⟩ => by subst e; exact ⟨rfl, _, rfl⟩) S ho hp h
end
end Mine
end
section
open PySem PySem.W PyProof.Rows PySem.Calls PySem.Spec
set_option Elab.async false
set_option maxRecDepth 100000
set_option linter.unusedVariables false
namespace Mine
section
variable {C : Cx} {g : Gh} {σ σ' : Store} {s s' : Shared} {env : Env} {ε : Loc} {n : Nat} {A : Around} {Q : V → Store → Prop} {X : AX → Store → Prop} {QB : Bool → Store → Prop} {QS : Fl → Loc → Store → Prop} {QA : Loc → Store → Prop}
def signs (x : List Nat) : List V := x.map fun c => .str ⟨#[c]⟩
def PStr (ty : String) (x : Str) (r : List V) (o : Obj) (_ : Heap) : Prop := ∃ (i : Nat) (t : Tok), o.cls = .type ty ∧ o.data = .fields #[.str x t, .int i 0] ∧ r = signs (x.cps.toList.drop i)
theorem str_at {x : Str} {i : Nat} {y : V} {r : List V} (e : y :: r = signs (x.cps.toList.drop i)) : ∃ c, x.cps[i]? = some c ∧ y = .str ⟨#[c]⟩ ∧ r = signs (x.cps.toList.drop (i + 1)) := by
  cases q : x.cps.toList.drop i with
  | nil => rw [q] at e; cases e
  | cons c l =>
    rw [q] at e
    have hx : x.cps[i]? = some c := by
      have : (x.cps.toList.drop i)[0]? = some c := by rw [q]; rfl
      simpa using this
    have hl : l = x.cps.toList.drop (i + 1) := by rw [← List.tail_drop, q]; rfl
    cases e
    exact ⟨c, hx, rfl, by rw [← hl]; rfl⟩
theorem str_end {x : Str} {i : Nat} (e : [] = signs (x.cps.toList.drop i)) : x.cps[i]? = none := by
  have := congrArg List.length e
  simp [signs] at this ⊢
  omega
theorem itk_ascii {it : Addr} {x : Str} : ItK C it (fun _ => True) (PStr "str_ascii_iterator" x) where
  mono := fun _ _ _ _ _ p => p
  nx := fun _ _ _ ⟨i, _, c, d, _⟩ => ⟨⟨_, d⟩, _, c, by decide⟩
  step := fun {A g σ s y r o QQ E} hh S hi ho ⟨i, t, c, d, e⟩ h => by
    obtain ⟨c', hx, rfl, hr⟩ := str_at e
    refine wpAny_pyNext_ascii_item ⟨o, ho, c, d⟩ hx fun h' ⟨o', ho', c', d'⟩ hs => ?_
    exact h _ s h' o' _ S (TK.refl _) ho (Nat.le_refl _) (fun _ _ z => z) rv_str hs ho' ⟨i + 1, t, c', by simpa using d', hr⟩
  stop := fun {A g σ s o QQ E} hh S hi ho ⟨i, t, c, d, e⟩ h => wpAny_pyNext_ascii_end hh ⟨o, ho, c, d⟩ (str_end e) fun h' hs => h h' s.toks hs
  self := fun ho ⟨i, _, c, d, _⟩ q => wpAny_pyIter_striter_ascii ⟨_, ho, c, d⟩ q
  go := fun S ho hp h => go_plain (nm := "str_ascii_iterator") (by decide) (fun _ _ _ ⟨_, _, c, d, _⟩ => ⟨c, _, d⟩) S ho hp h
theorem itk_wide {it : Addr} {x : Str} : ItK C it (fun _ => True) (PStr "str_iterator" x) where
  mono := fun _ _ _ _ _ p => p
  nx := fun _ _ _ ⟨i, _, c, d, _⟩ => ⟨⟨_, d⟩, _, c, by decide⟩
  step := fun {A g σ s y r o QQ E} hh S hi ho ⟨i, t, c, d, e⟩ h => by
    obtain ⟨c', hx, rfl, hr⟩ := str_at e
    refine wpAny_pyNext_wide_item ⟨o, ho, c, d⟩ hx fun h' ⟨o', ho', c', d'⟩ hs => ?_
    exact h _ s h' o' _ S (TK.refl _) ho (Nat.le_refl _) (fun _ _ z => z) rv_str hs ho' ⟨i + 1, t, c', by simpa using d', hr⟩
  stop := fun {A g σ s o QQ E} hh S hi ho ⟨i, t, c, d, e⟩ h => wpAny_pyNext_wide_end hh ⟨o, ho, c, d⟩ (str_end e) fun h' hs => h h' s.toks hs
  self := fun ho ⟨i, _, c, d, _⟩ q => wpAny_pyIter_striter_wide ⟨_, ho, c, d⟩ q
  go := fun S ho hp h => go_plain (nm := "str_iterator") (by decide) (fun _ _ _ ⟨_, _, c, d, _⟩ => ⟨c, _, d⟩) S ho hp h
theorem goes_str {x : Str} : Goes C (.str x) (signs x.cps.toList) (fun _ => True) σ := ⟨trivial, fun {A g env ε s v QQ E} hu D r h => by
  obtain ⟨t, rfl⟩ := r
  obtain ⟨f1, f2, f3, f4⟩ := D.fresh (Nat.le_refl _)
  cases ha : x.cps.all (· < 128)
  · exact wpAny_pyIter_wide ha (h s.heap.objs.size _ _ _ s.toks itk_wide (D.push _ _) (TK.push _ _) f1 f2 f3 f4 (Heap.get?_push_size _ rfl) ⟨0, t, rfl, rfl, by simp⟩)
  · exact wpAny_pyIter_ascii ha (h s.heap.objs.size _ _ _ s.toks itk_ascii (D.push _ _) (TK.push _ _) f1 f2 f3 f4 (Heap.get?_push_size _ rfl) ⟨0, t, rfl, rfl, by simp⟩)⟩
theorem RPairs.length {α : Type} {h : Heap} : ∀ {l : List (α × V)} {vs : List (α × Value)}, RPairs h l vs → vs.length = l.length
  | [], _, r => by rw [show _ = [] from r]; rfl
  | (_, _) :: l, _, r => by obtain ⟨v, q, rfl, _, r2⟩ := r; simp [r2.length]
theorem RPairs.get {α : Type} {h : Heap} : ∀ {l : List (α × V)} {vs : List (α × Value)} {i : Nat} {k : α} {x : V}, RPairs h l vs → l[i]? = some (k, x) → ∃ v, vs[i]? = some (k, v) ∧ RV h x v
  | [], _, _, _, _, _, e => by simp at e
  | (_, _) :: l, _, 0, k, x, r, e => by obtain ⟨v, q, rfl, r1, r2⟩ := r; simp at e; obtain ⟨rfl, rfl⟩ := e; exact ⟨v, rfl, r1⟩
  | (_, _) :: l, _, i + 1, k, x, r, e => by obtain ⟨v, q, rfl, r1, r2⟩ := r; exact RPairs.get (i := i) r2 (by simpa using e)
def keysS (es : List (Str × V)) : List V := es.map fun p => .str p.1
def PKey (d : Addr) (es : List (Str × V)) (ep : Nat) (r : List V) (o : Obj) (_ : Heap) : Prop := ∃ i : Nat, o.cls = .type "dict_keyiterator" ∧ o.data = .fields #[.ref d, .int i 0, .int es.length 0, .int ep 0] ∧ r = keysS (es.drop i)
theorem itk_key {it d : Addr} {es : List (Str × V)} {ep : Nat} (hne : it ≠ d) : ItK C it (fun σ => σ d = some (.dictS es ep)) (PKey d es ep) where
  mono := fun _ _ _ _ _ p => p
  nx := fun _ _ _ ⟨i, c, d, _⟩ => ⟨⟨_, d⟩, _, c, by decide⟩
  step := fun {A g σ s x r o QQ E} hh S hi ho ⟨i, c, dd, e⟩ h => by
    obtain ⟨hsys, kvs, hm, hr⟩ := S.sim d _ hi
    cases q : es.drop i with
    | nil => rw [q] at e; cases e
    | cons y l =>
      rw [q] at e
      obtain ⟨k, y⟩ := y
      have hx : es[i]? = some (k, y) := by
        have : (es.drop i)[0]? = some (k, y) := by rw [q]; rfl
        simpa using this
      have hl : l = es.drop (i + 1) := by rw [← List.tail_drop, q]; rfl
      cases e
      obtain ⟨v, hv, _⟩ := hr.get hx
      refine wpAny_pyNext_dict_item (ep := ep) ⟨o, ho, c, by rw [hr.length]; exact dd⟩ hm hv fun key h' hk ⟨o', ho', c', d'⟩ hs => ?_
      obtain ⟨t, rfl⟩ := Value.isStrOf_shape hk
      exact h _ s h' o' s.toks S (TK.refl _) ho (Nat.le_refl _) (fun _ _ z => z) rv_str hs ho' ⟨i + 1, c', by rw [hr.length] at d'; simpa using d', by rw [← hl]; rfl⟩
  stop := fun {A g σ s o QQ E} hh S hi ho ⟨i, c, dd, e⟩ h => by
    obtain ⟨hsys, kvs, hm, hr⟩ := S.sim d _ hi
    refine wpAny_pyNext_dict_end (ep := ep) hh ⟨o, ho, c, by rw [hr.length]; exact dd⟩ hm ?_ fun h' hs => h h' s.toks hs
    have := congrArg List.length e
    have := hr.length
    simp [keysS] at *
    omega
  self := fun ho ⟨i, c, d, _⟩ q => wpAny_pyIter_keyiter ⟨_, ho, c, d⟩ q
  go := fun S ho hp h => go_plain (nm := "dict_keyiterator") (by decide) (fun _ _ _ ⟨_, c, d, _⟩ => ⟨c, _, d⟩) S ho hp h
theorem goes_dict {d : Addr} {es : List (Str × V)} {ep : Nat} (hd : σ d = some (.dictS es ep)) : Goes C (.obj d) (keysS es) (fun σ => σ d = some (.dictS es ep)) σ := ⟨hd, fun {A g env ε s v QQ E} hu D r h => by
  rw [show v = _ from r]
  obtain ⟨hsys, kvs, hm, hr⟩ := D.S.sim d _ hd
  obtain ⟨f1, f2, f3, f4⟩ := D.fresh (Nat.le_refl _)
  refine wpAny_pyIter_dict hsys hm (h s.heap.objs.size _ _ _ s.toks (itk_key (es := es) (ep := ep) fun q => ?_) (D.push _ _) (TK.push _ _) f1 f2 f3 f4 (Heap.get?_push_size _ rfl) ⟨0, rfl, by rw [hr.length]; rfl, rfl⟩)
  rw [q, hd] at f1; cases f1⟩
def rangeObj (a b c : Int) (t u v : Tok) : Obj := { cls := .type "range", data := .fields #[.int a t, .int b u, .int c v] }
theorem goes_range {r : Addr} {a b c : Int} {t u v : Tok} {k : Nat} (hs : Builtin.Range.small a b c = true) (hk : Builtin.Range.rangeSize a b c = k) (hr : σ r = some (.raw (rangeObj a b c t u v))) : Goes C (.obj r) (upto a c k) (fun _ => True) σ :=
  ⟨trivial, fun {A g env ε s w QQ E} hu D rr h => by
  rw [show w = _ from rr]
  obtain ⟨f1, f2, f3, f4⟩ := D.fresh (Nat.le_refl _)
  exact wpAny_pyIter_range (D.S.sim r _ hr) hs (h s.heap.objs.size _ _ _ s.toks itk_range (D.push _ _) (TK.push _ _) f1 f2 f3 f4 (Heap.get?_push_size _ rfl) ⟨a, k, by rw [hk], rfl⟩)⟩
def IT (C : Cx) (n : Nat) (env : Env) (ε : Loc) (e : Expr) (σ : Store) (QI : List V → (Store → Prop) → Store → Prop) (X : AX → Store → Prop) : Prop :=
  EV C n env ε e σ (ItP C QI) X
theorem range_1 {b : Int} (h : ∀ r t u v, σ r = none → Q (.obj r) (upd σ r (.raw (rangeObj 0 b 1 t u v)))) : OPL C n env ε (fun vs => call (.type "range") vs) [.int b] σ Q X := fun A g s vs hA D r => by
  obtain ⟨v, r', rfl, ⟨t, rfl⟩, q⟩ := r
  rw [show r' = [] from q]
  refine call_range_1 ?_
  obtain ⟨f1, D', k⟩ := D.alloc (rangeObj 0 b 1 s.toks t (s.toks + 1)) (s.toks + 1 + 1) (x := .raw (rangeObj 0 b 1 s.toks t (s.toks + 1))) (Heap.get?_push_size _ rfl)
  exact ⟨.obj _, _, D', k, rv_obj, h _ _ _ _ f1⟩
theorem range_2 {a b : Int} (h : ∀ r t u v, σ r = none → Q (.obj r) (upd σ r (.raw (rangeObj a b 1 t u v)))) : OPL C n env ε (fun vs => call (.type "range") vs) [.int a, .int b] σ Q X := fun A g s vs hA D r => by
  obtain ⟨v, r', rfl, ⟨t, rfl⟩, r''⟩ := r
  obtain ⟨v, r3, rfl, ⟨u, rfl⟩, q⟩ := r''
  rw [show r3 = [] from q]
  refine call_range_2 ?_
  obtain ⟨f1, D', k⟩ := D.alloc (rangeObj a b 1 t u s.toks) (s.toks + 1) (x := .raw (rangeObj a b 1 t u s.toks)) (Heap.get?_push_size _ rfl)
  exact ⟨.obj _, _, D', k, rv_obj, h _ _ _ _ f1⟩
theorem range_3 {a b c : Int} (hc : c ≠ 0) (hp : Builtin.divisionGoesByPylong (b - a) c = false) (h : ∀ r t u v, σ r = none → Q (.obj r) (upd σ r (.raw (rangeObj a b c t u v)))) : OPL C n env ε (fun vs => call (.type "range") vs) [.int a, .int b, .int c] σ Q X := fun A g s vs hA D r => by
  obtain ⟨v, r', rfl, ⟨t, rfl⟩, r''⟩ := r
  obtain ⟨v, r3, rfl, ⟨u, rfl⟩, r4⟩ := r''
  obtain ⟨v, r5, rfl, ⟨w, rfl⟩, q⟩ := r4
  rw [show r5 = [] from q]
  refine call_range_3 hc ?_ (.inl hp)
  obtain ⟨f1, D', k⟩ := D.alloc (rangeObj a b c t u w) s.toks (x := .raw (rangeObj a b c t u w)) (Heap.get?_push_size _ rfl)
  exact ⟨.obj _, _, D', k, rv_obj, h _ _ _ _ f1⟩
theorem upd_sub {a : Addr} {o : AO} (h : σ a = none) : ∀ b x, σ b = some x → upd σ a o b = some x := fun b x e => by
  have : b ≠ a := fun q => by rw [q, h] at e; cases e
  rw [upd_ne _ _ this]; exact e
theorem rangeSize_up (a b : Int) : Builtin.Range.rangeSize a b 1 = ((b - a).toNat : Nat) := by
  rw [rangeSize_one]; split <;> omega
theorem TL.mono {t : Sem (List Value)} {QL QL' : List V → Store → Prop} (h : TL C n env ε t σ QL X) (hQ : ∀ xs σ, QL xs σ → QL' xs σ) : TL C n env ε t σ QL' X :=
  fun A g s a D => wpAny_mono (h A g s a D) (fun _ _ ⟨x, σ', p, q, r, z⟩ => ⟨x, σ', p, q, r, hQ _ _ z⟩) fun _ _ z => z
inductive RgP (QI : List V → (Store → Prop) → Store → Prop) (xs : List V) (σ₁ : Store) : Prop
  | mk (a b c : Int) (k : Nat) (z : xs = [.int b] ∧ a = 0 ∧ c = 1 ∨ xs = [.int a, .int b] ∧ c = 1 ∨ xs = [.int a, .int b, .int c] ∧ c ≠ 0 ∧ Builtin.divisionGoesByPylong (b - a) c = false) (hs : Builtin.Range.small a b c = true) (hk : Builtin.Range.rangeSize a b c = (k : Nat)) (q : QI (upto a c k) (fun _ => True) σ₁)
theorem IT_range {e : Expr} {es : List Expr} {pos pf : Pos} {QI : List V → (Store → Prop) → Store → Prop} (hn : EV C n env ε (.Name "range" pf) σ (fun x σ₁ => x = .raw (.type "range") ∧ σ₁ = σ) X)
    (h : TL C n env ε (spliced (backTo pos (starEach (e :: es) env))) σ (RgP QI) X)
    (he : eval (.Call (.Name "range" pf) (e :: es) [] pos) env = (do callWith pos (← eval (.Name "range" pf) env) [] (backTo pos (starEach (e :: es) env)) []) := by rfl)
    (he2 : starEach (e :: es) env = (false, eval e env) :: starEach es env := by rfl) (hp : (backTo pos (starEach es env)).any (·.1) = false := by rfl) : IT C n env ε (.Call (.Name "range" pf) (e :: es) [] pos) σ QI X := by
  refine EV_Call (TV.mono hn (fun x σ₁ ⟨e1, e2⟩ => ?_) fun _ _ x => x) he
  subst e1 e2
  refine ⟨_, one_raw _, CW_cons (TL.mono h fun xs σ₁ ⟨a, b, c, k, z, hs, hk, q⟩ => ⟨Kp_type, ?_⟩) he2 hp⟩
  have fin : ∀ r t u v, σ₁ r = none → ItP C QI (.obj r) (upd σ₁ r (.raw (rangeObj a b c t u v))) :=
    fun r t u v hr => ⟨_, _, σ₁, goes_range hs hk (upd_self ..), upd_sub hr, trivial, q⟩
  rcases z with ⟨rfl, rfl, rfl⟩ | ⟨rfl, rfl⟩ | ⟨rfl, hc, hd⟩
  · exact range_1 fin
  · exact range_2 fin
  · exact range_3 hc hd fin
theorem TS_For_it {target iter : Expr} {body : List Stmt} {pos : Pos} (hf : env.frame = some env.locals) (h : IT C (n + 1) env ε iter σ (Qfi C n env ε target body QS X) X)
    (hs : ∀ x, foldedSetIterable iter env x = pure x := by intro _; rfl) : TS C (n + 1) env ε (exec (.For target iter body [] pos) env) σ QS X :=
  TS_For hf h hs
variable {QI : List V → (Store → Prop) → Store → Prop}
abbrev Qiv (C : Cx) (QI : List V → (Store → Prop) → Store → Prop) : V → Store → Prop := fun x σ₁ => ∃ items Inv, Goes C x items Inv σ₁ ∧ QI items Inv σ₁
theorem IT_val {e : Expr} (h : EV C n env ε e σ (Qiv C QI) X) : IT C n env ε e σ QI X :=
  TV.mono h (fun x σ₁ ⟨items, Inv, a, b⟩ => ⟨items, Inv, σ₁, a, fun _ _ e => e, a.1, b⟩) fun _ _ x => x
end
end Mine
end
section
open PySem PySem.W PyProof.Rows PySem.Calls PySem.Spec
set_option Elab.async false
set_option maxRecDepth 100000
set_option linter.unusedVariables false
namespace Mine
def XF : AX → Store → Prop := fun _ _ => False
def tests (ifs : List Expr) (env : Env) : Sem Bool := forIn ifs true fun c r => if r = true then do let ok ← isTrue c env (eval c env); pure (ForInStep.yield ok) else pure (ForInStep.yield r)
def CmpW (C : Cx) (n : Nat) (env : Env) (target elt : Expr) (ifs : List Expr) (Inv : Store → Prop) (QA : List V → Store → Prop) : List V → List V → Loc → Store → Prop
  | acc, [], _, σ => QA acc σ
  | acc, x :: r, ε, σ => TA C n env ε (assign target env) x σ (fun ε₁ σ₁ => TT C n env ε₁ (tests ifs env) σ₁ (fun b σ₂ =>
      if b then EV C n env ε₁ elt σ₂ (fun y σ₃ => Inv σ₃ ∧ CmpW C n env target elt ifs Inv QA (acc ++ [y]) r ε₁ σ₃) XF else Inv σ₂ ∧ CmpW C n env target elt ifs Inv QA acc r ε₁ σ₂) XF) XF
section
variable {C : Cx} {g : Gh} {σ σ' : Store} {s s' : Shared} {env : Env} {ε : Loc} {n : Nat} {A : Around} {Q : V → Store → Prop} {X : AX → Store → Prop} {QB : Bool → Store → Prop} {QS : Fl → Loc → Store → Prop} {QA : Loc → Store → Prop} {QL : List V → Store → Prop}
theorem TT_tests_nil (h : QB true σ) : TT C n env ε (tests [] env) σ QB X := fun A g s a D => wpAny_tests_nil (pb D h)
theorem TT_tests_one {c : Expr} (h : TT C n env ε (isTrue c env (eval c env)) σ QB X) : TT C n env ε (tests [c] env) σ QB X := fun A g s a D => wpAny_tests_one (h A g s a D)
theorem PostX.no {e : Value} {s₀ : Shared} (h : PostX C g env s₀ XF e s) {P : Prop} : P := by
  obtain ⟨_, _, _, _, _, _, _, q⟩ := h; exact q.elim
theorem NT.list {o : Obj} (h : o.cls = .type "list") : NT o := fun _ _ _ c => by rw [h] at c; injection c with c; exact absurd c (by decide)
theorem NX.seq {o : Obj} {xs n} (h : o.data = .seq xs n) : NX o := fun _ e => by rw [h] at e; cases e
theorem append_pl {prog : Program} {w : World} {A : Around} {E : Value → Shared → Prop} {s : Shared} {l : Addr} {vs : List Value} {x : Value} {Q : Value → Shared → Prop} (hl : PL s.heap l vs)
    (hQ : ∀ h', PL h' l (vs ++ [x]) → Heap.SameBut l s.heap h' → Q .none { s with heap := h' }) (hsz : vs.length ≤ sizeLine) : wpAny (model prog w) A (call (.builtin "list.append") [.ref l, x]) Q E s := by
  obtain ⟨n, ho⟩ := id hl
  refine wpAny_call_entry slot_list_append hl.isList.typeIs entry_list_append ?_ (args_list_append _ _)
  show wpAny _ _ (updateSeq l (·.push x) >>= fun _ => ret .none) _ _ s
  refine wpAny_bind ?_
  refine wpAny_updateSeq (hz := by rw [List.size_toArray]; exact hsz) ho rfl (wpAny_pure ⟨.none, rfl, hQ _ ⟨n + 1, ?_⟩ (Heap.SameBut.update ..)⟩)
  have := get?_update_seq ho (·.push x)
  rw [this]
  simp [seqObj, listOb]
inductive CompI (C : Cx) (n : Nat) (g : Gh) (env : Env) (s : Shared) (target elt : Expr) (ifs : List Expr) (QL : List V → Store → Prop) (it acc : Addr) (P : List V → Obj → Heap → Prop) (Inv : Store → Prop) (k : Nat) (s₁ : Shared) : Prop
  | mk (r xs : List V) (vs : List Value) (ε₁ : Loc) (σ₁ : Store) (o₁ : Obj) (e0 : k = r.length) (e1 : xs.length + r.length ≤ 1000000) (e2 : Hd C g env ε₁ σ₁ s₁) (e3 : TK s.heap s₁.heap) (e4 : s₁.heap.get? it = some o₁) (e5 : P r o₁ s₁.heap) (e6 : Inv σ₁) (e7 : σ₁ it = none) (e8 : σ₁ acc = none)
      (e9 : PL s₁.heap acc vs) (e10 : RVs s₁.heap xs vs) (e11 : CmpW C (n + 1) env target elt ifs Inv QL xs r ε₁ σ₁)
theorem comp_gen {it acc : Addr} {P : List V → Obj → Heap → Prop} {Inv : Store → Prop} {target iter elt : Expr} {ifs : List Expr} {scope : Scope} {pos : Pos} {items : List V} {o : Obj} {R : Result → Shared → Prop} (K : ItK C it Inv P)
    (hA : AOk C (n + 1) g (some env) A) (D : Hd C g env ε σ s) (hi : Inv σ)
    (hσ : σ it = none) (hg : g it = none) (hH : C.H.get? it = none) (hL : it ≠ env.locals) (ho : s.heap.get? it = some o) (hP : P items o s.heap)
    (aσ : σ acc = none) (ag : g acc = none) (aH : C.H.get? acc = none) (aL : acc ≠ env.locals) (hne : it ≠ acc) (hacc : PL s.heap acc []) (hlen : items.length ≤ 1000000)
    (h : CmpW C (n + 1) env target elt ifs Inv QL [] items ε σ)
    (hR : ∀ xs vs ε' σ' s', Hd C g env ε' σ' s' → TK s.heap s'.heap → PL s'.heap acc vs → RVs s'.heap xs vs → σ' acc = none → QL xs σ' → R (.ok .next) s')
    (ht : ∀ v, letOwnedTupleGo target (.ref it) v = pure () := by intro _; rfl) :
    codeAny C.M A (.compLoop (.ListComp elt [⟨target, iter, ifs, 0⟩] scope pos) 0 (.ref it) (.ref acc) env) R s := by
  refine codeAny_compLoop_tests (CompI C n g env s target elt ifs QL it acc P Inv) ?_ items.length
    ⟨items, [], [], ε, σ, o, rfl, by simpa using hlen, D, TK.refl _, ho, hP, hi, hσ, aσ, hacc, RVs.nil, h⟩ ht
  rintro k s₁ ⟨r, xs, vs, ε₁, σ₁, o₁, rfl, hlen₁, D₁, k₁, ho₁, hP₁, hi₁, hσ₁, aσ₁, hl₁, rv₁, hw⟩
  have nt : ∀ {r o h}, P r o h → NX o ∧ NT o := fun p => by
    obtain ⟨⟨vs, d⟩, nm, c, ne⟩ := K.nx _ _ _ p
    exact ⟨fun _ _ => ⟨nm, c, ne⟩, NT.fields d⟩
  cases r with
  | nil =>
    refine K.stop hA.hn D₁.S hi₁ ho₁ hP₁ fun h' tk hs => ?_
    obtain ⟨D₂, k₂⟩ := D₁.ext tk hσ₁ hg hH hL ho₁ (nt hP₁).2 hs
    exact hR xs vs _ _ _ D₂ (k₁.trans k₂) (hl₁.extBut hs (Ne.symm hne)) (RVs.mono k₂ _ _ rv₁) aσ₁ hw
  | cons x r =>
    refine K.step hA.hn D₁.S hi₁ ho₁ hP₁ fun v s₁' h' o' tk S₁' kk hoo hsz hkk rv hs ho₂ hP₂ => ?_
    have D₁' : Hd C g env ε₁ σ₁ s₁' := ⟨S₁', by
      obtain ⟨m, ⟨ob, es, ep, q', r'⟩, z⟩ := D₁.F.ns
      exact ⟨D₁.F.gL, D₁.F.hL, D₁.F.σL, m, ⟨ob, es, ep, hkk _ _ q', r'⟩, fun x V hx => let ⟨v, a, b⟩ := z x V hx; ⟨v, a, RV.mono kk _ _ b⟩⟩⟩
    obtain ⟨D₂, k₂⟩ := D₁'.other tk hσ₁ hg hH hL hs hoo (nt hP₁).2
    have hl₂ : PL h' acc vs := (hl₁.at fun _ e => hkk _ _ e).extBut hs.extBut (Ne.symm hne)
    obtain ⟨nA, hoA⟩ := id hl₂
    have D₃ := D₂.toghost hσ₁ hH hL ho₂ (nt hP₂)
    have gA : gadd g it o' acc = none := by simp [gadd, Ne.symm hne, ag]
    have D₄ := D₃.toghost aσ₁ aH aL hoA ⟨NX.seq rfl, NT.list rfl⟩
    have a' := (hA.gadd (a := it) (o := o') hg).gadd (a := acc) (o := listOb vs nA) gA
    have kx : TK s.heap h' := (k₁.trans kk).trans k₂
    -- back from the ghosts
    have back : ∀ {ε₅ σ₅ s₅}, Hd C (gadd (gadd g it o') acc (listOb vs nA)) env ε₅ σ₅ s₅ → TK h' s₅.heap → Hd C g env ε₅ σ₅ s₅ ∧ s₅.heap.get? it = some o' ∧ P r o' s₅.heap ∧ PL s₅.heap acc vs ∧ σ₅ it = none ∧ σ₅ acc = none ∧ RVs s₅.heap xs vs := fun {ε₅ σ₅ s₅} D₅ k₅ => by
      have D₆ := D₅.unghost gA aL
      obtain ⟨o₆, q, se⟩ := D₆.S.gs it o' (by simp [gadd])
      obtain ⟨⟨ws, d⟩, _⟩ := K.nx _ _ _ hP₂
      rw [se.eq d] at q
      obtain ⟨o₇, q7, se7⟩ := D₅.S.gs acc (listOb vs nA) (by simp [gadd])
      refine ⟨D₆.unghost hg hL, q, K.mono _ _ _ _ k₅ hP₂, ⟨nA, by rw [← se7.eqs rfl]; exact q7⟩, ?_, ?_, RVs.mono ((kk.trans k₂).trans k₅) _ _ rv₁⟩
      · cases z : σ₅ it with
        | none => rfl
        | some ob => have := D₆.S.gσ it (by rw [z]; exact nofun); simp [gadd] at this
      · cases z : σ₅ acc with
        | none => rfl
        | some ob => have := D₅.S.gσ acc (by rw [z]; exact nofun); simp [gadd] at this
    refine wpAny_mono (hw A _ _ v a' D₄ rv) (fun _ s₅ ⟨ε₅, σ₅, D₅, k₅, h₅⟩ => ?_) fun e s' z => z.no
    refine wpAny_mono (h₅ A _ s₅ a' D₅) (fun b s₆ ⟨σ₆, D₆, k₆, h₆⟩ => ?_) fun e s' z => z.no
    simp only [List.length_cons] at hlen₁
    cases b with
    | false =>
      simp only [Bool.false_eq_true, if_false] at h₆ ⊢
      obtain ⟨b1, b2, b3, b4, b5, b6, b7⟩ := back D₆ (k₅.trans k₆)
      exact ⟨r.length, Nat.lt_succ_self _, r, xs, vs, ε₅, σ₆, o', rfl, by omega, b1, (kx.trans k₅).trans k₆, b2, b3, h₆.1, b5, b6, b4, b7, h₆.2⟩
    | true =>
      simp only [if_true] at h₆ ⊢
      refine wpAny_mono (h₆ A _ s₆ a' D₆) (fun w s₇ ⟨y, σ₇, D₇, k₇, r₇, h₇⟩ => ?_) fun e s' z => z.no
      obtain ⟨b1, b2, b3, b4, b5, b6, b7⟩ := back D₇ ((k₅.trans k₆).trans k₇)
      have hlv := b7.length
      obtain ⟨nB, hoB⟩ := id b4
      refine append_pl (hsz := by rw [sizeLine_eq]; omega) b4 fun h₈ hl₈ hs₈ => ?_
      obtain ⟨D₈, k₈⟩ := b1.other (h' := h₈) s₇.toks b6 ag aH aL hs₈ hoB (NT.list rfl)
      refine ⟨r.length, Nat.lt_succ_self _, r, xs ++ [y], vs ++ [w], ε₅, σ₇, o', rfl, by simp; omega, D₈, (((kx.trans k₅).trans k₆).trans k₇).trans k₈, (hs₈.2 _ hne).trans b2, K.mono _ _ _ _ k₈ b3, h₇.1, b5, b6, ?_, ?_, h₇.2⟩
      · exact hl₈
      · exact RVs.append (RVs.mono k₈ _ _ b7) (RVs.one (RV.mono k₈ _ _ r₇))
end
end Mine
end
section
open PySem PySem.W PyProof.Rows PySem.Calls PySem.Spec
set_option Elab.async false
set_option maxRecDepth 100000
set_option linter.unusedVariables false
namespace Mine
section
variable {C : Cx} {g : Gh} {σ σ' : Store} {s s' : Shared} {env : Env} {ε : Loc} {n : Nat} {A : Around} {Q : V → Store → Prop} {X : AX → Store → Prop} {QB : Bool → Store → Prop} {QS : Fl → Loc → Store → Prop} {QA : Loc → Store → Prop} {QL : List V → Store → Prop}
theorem comp_in {target iter elt : Expr} {ifs : List Expr} {scope : Scope} {pos : Pos} {cl : List (Str × Addr)} {items : List V} {Inv : Store → Prop} {σ₂ : Store} {it : Addr} {P : List V → Obj → Heap → Prop} {o : Obj} {E : Value → Shared → Prop}
    {RR : Value → Addr → Result → Shared → Prop}
    (hA : AOk C (n + 1) g (some env) A) (D : Hd C g env ε σ₂ s) (K : ItK C it Inv P) (hσ : σ₂ it = none) (hg : g it = none) (hH : C.H.get? it = none) (hL : it ≠ env.locals) (ho : s.heap.get? it = some o) (hP : P items o s.heap) (hi : Inv σ₂)
    (hcell : ∀ y ∈ scope.names, y.2 ≠ .cell) (hkind : scope.kind = .function) (hlen : items.length ≤ 1000000)
    (h : ∀ Cl, CmpW C (n + 1) (compEnvC scope cl Cl env) target elt ifs Inv QL [] items [] σ₂) (ht : ∀ v, letOwnedTupleGo target (.ref it) v = pure ())
    (hR : ∀ Cl D xs vs σ' s' m, Hd C g env ε σ' s' → TK s.heap s'.heap → PL s'.heap D vs → RVs s'.heap xs vs → s'.heap.Ns Cl m → σ' D = none → g D = none → C.H.get? D = none → D ≠ env.locals →
      σ' Cl = none → g Cl = none → C.H.get? Cl = none → Cl ≠ env.locals → D ≠ Cl → QL xs σ' → RR (.ref D) Cl (.ok .next) s') :
    wpAny C.M A (newList []) (fun acc s₃ => wpAny C.M A (newFunctionEnv scope env.globals cl [] env.qual none .none (some env)) (fun cenv s₄ =>
      codeAny C.M A (.compStart (.ListComp elt [⟨target, iter, ifs, 0⟩] scope pos) 0 (.ref it) acc { cenv with scope := relabel scope env }) (RR acc cenv.locals) s₄) E s₃) E s := by
  refine wpAny_newObj_type (wpAny_newFunctionEnv hcell (by intro y hy; simp at hy) (fun h₁ hns₁ hsb₁ => ?_) hkind)
  dsimp only at hns₁ hsb₁ ⊢
  generalize hH2 : s.heap.push { cls := .type "list", dict := none, data := .seq ([] : List Value).toArray } = H2 at hns₁ hsb₁ ⊢
  have hC : H2.objs.size = s.heap.objs.size + 1 := by rw [← hH2, Heap.size_push]
  have hDC : s.heap.objs.size ≠ H2.objs.size := by rw [hC]; exact Nat.ne_of_lt (Nat.lt_succ_self _)
  have old : ∀ b o, s.heap.get? b = some o → h₁.get? b = some o := fun b o e =>
    hsb₁.extBut b o (by have := Heap.lt_size e; rw [hC]; exact Nat.ne_of_lt (Nat.lt_succ_of_lt this)) (Heap.get?_push_of_some _ (hH2 ▸ Heap.get?_push_of_some _ e))
  have hacc : PL h₁ s.heap.objs.size [] := ⟨0, hsb₁.extBut _ _ hDC (Heap.get?_push_of_some _ (hH2 ▸ Heap.get?_push_size _ rfl))⟩
  have fD := D.fresh (a := s.heap.objs.size) (Nat.le_refl _)
  have fC := D.fresh (a := H2.objs.size) (by rw [hC]; exact Nat.le_succ _)
  have D1 : Hd C g env ε σ₂ { s with heap := h₁, toks := s.toks + ([] : List (Str × Value)).length } :=
    ⟨D.S.grow _ old, D.F.keeps (h' := h₁) (fun _ e => old _ _ e) (TK.of_keeps old) rfl D.F.σL⟩
  obtain ⟨oL, hd, S1, a1, back⟩ := D1.lend hA
  have gl : ∀ b, b ≠ env.locals → g b = none → gadd g env.locals oL b = none := fun b hb e => by simp [gadd, hb, e]
  have hit : it < s.heap.objs.size := Heap.lt_size ho
  have a2 : AOk C (n + 1) (gadd g env.locals oL) (some (compEnvC scope cl H2.objs.size env)) A := by
    obtain ⟨b1, b2, b3, b4⟩ := hA
    obtain ⟨outer, e, f, hh⟩ := b4
    obtain ⟨_, _, _, outer', e', f', _⟩ := a1
    rw [e] at e'; cases e'
    refine ⟨b1, b2, b3, outer, e, fun en hen => ?_, fun en hen => ?_⟩
    · obtain ⟨k1, F, k2, k3, k4⟩ := f' en hen
      exact ⟨k1, F, k2, k3, .inr (k4.resolve_left nofun)⟩
    · cases hen
      obtain ⟨en, h1, h2⟩ := (hh env rfl).2
      refine ⟨fun q => ?_, en, h1, h2⟩
      obtain ⟨k1, F, k2, k3, k4⟩ := f' en h1
      rw [h2] at k2
      have q' : env.frame = some H2.objs.size := q
      rw [q'] at k2; cases k2
      obtain ⟨ob, k5, _⟩ := k4.resolve_left nofun
      rw [gl _ fC.2.2.2 fC.2.1] at k5; cases k5
  have D2 : Hd C (gadd g env.locals oL) (compEnvC scope cl H2.objs.size env) [] σ₂ { s with heap := h₁, toks := s.toks + ([] : List (Str × Value)).length } :=
    ⟨S1, gl _ fC.2.2.2 fC.2.1, fC.2.2.1, fC.1, _, hns₁, fun x V hx => by cases hx⟩
  have loop : ∀ s₃ : Shared, s₃ = { s with heap := h₁, toks := s.toks + ([] : List (Str × Value)).length } →
      codeAny C.M A (.compLoop (.ListComp elt [⟨target, iter, ifs, 0⟩] scope pos) 0 (.ref it) (.ref s.heap.objs.size) (compEnvC scope cl H2.objs.size env)) (RR (.ref s.heap.objs.size) H2.objs.size) s₃ := by
    rintro s₃ rfl
    refine comp_gen (env := compEnvC scope cl H2.objs.size env) K a2 D2 hi hσ (gl _ hL hg) hH (by show it ≠ H2.objs.size; rw [hC]; exact Nat.ne_of_lt (Nat.lt_succ_of_lt hit)) (old _ _ ho) (K.mono _ _ _ _ (TK.of_keeps old) hP) fD.1 (gl _ fD.2.2.2 fD.2.1) fD.2.2.1 hDC
      (Nat.ne_of_lt hit) hacc hlen (h _) (fun xs vs ε' σ' s' D3 k3 hl3 rv3 aσ3 q3 => ?_) ht
    obtain ⟨m, hm, _⟩ := D3.F.ns
    refine hR _ _ xs vs σ' s' m (back _ _ D3.S k3) ((TK.of_keeps old).trans k3) hl3 rv3 hm aσ3 fD.2.1 fD.2.2.1 fD.2.2.2 D3.F.σL fC.2.1 fC.2.2.1 fC.2.2.2 hDC q3
  exact codeAny_compStart_list (loop _ rfl) (K.self (old _ _ ho) (K.mono _ _ _ _ (TK.of_keeps old) hP) (loop _ rfl))
abbrev Qcl (Q : V → Store → Prop) : List V → Store → Prop := fun xs σ₃ => ∀ D, σ₃ D = none → Q (.obj D) (upd σ₃ D (.list xs))
abbrev Qic (C : Cx) (n : Nat) (env : Env) (target elt : Expr) (ifs : List Expr) (scope : Scope) (cl : List (Str × Addr)) (QL : List V → Store → Prop) : List V → (Store → Prop) → Store → Prop := fun items Inv σ₂ => items.length ≤ 1000000 ∧ ∀ Cl, CmpW C (n + 1) (compEnvC scope cl Cl env) target elt ifs Inv QL [] items [] σ₂
theorem EV_ListComp {target iter elt : Expr} {ifs : List Expr} {scope : Scope} {pos : Pos} {cl : List (Str × Addr)}
    (h : IT C (n + 1) env ε iter σ (Qic C n env target elt ifs scope cl (Qcl Q)) X)
    (hclos : closureFor scope env = pure cl := by rfl) (hcell : ∀ y ∈ scope.names, y.2 ≠ .cell := by decide) (hkind : scope.kind = .function := by rfl) (hnames : ∀ y ∈ scope.names, y.2 = .local → scope.names.lookup y.1 = some .local := by decide)
    (ht : ∀ it v, letOwnedTupleGo target (.ref it) v = pure () := by intro _ _; rfl) (hs : ∀ x, foldedSetIterable iter env x = pure x := by intro _; rfl) :
    EV C (n + 1) env ε (.ListComp elt [⟨target, iter, ifs, 0⟩] scope pos) σ Q X := fun A g s hA D => by
  rw [eval_ListComp]
  refine wpAny_comprehension_free (use := none) rfl hs hclos hkind hnames (h.use hA D (fun v x σ₁ s₁ D₁ k₁ r₁ ⟨items, Inv, σ₂, ⟨hi, go⟩, hsub, hi₂, hlen, hw⟩ => go hA.urm D₁ r₁ fun it P o h' tk K D₂ k₂ e1 e2 e3 e4 e5 e6 => ?_) fun _ _ z => z)
  refine comp_in (RR := fun acc Cl => compPost C.M A (PostX C g env s X) none (Post C g env ε s Q) acc Cl) hA (D₂.weaken hsub) K (by
      cases q : σ₂ it with
      | none => rfl
      | some ob => rw [hsub _ _ q] at e1; cases e1) e2 e3 e4 e5 e6 hi₂ hcell hkind hlen hw (ht it) fun Cl Dd xs vs σ' s' m D₃ k₃ hl₃ rv₃ hn₃ d1 d2 d3 d4 c1 c2 c3 c4 hne q => ?_
  obtain ⟨oC, es, ep, hoC, hdC, _⟩ := id hn₃
  refine ⟨m, hn₃, fun h'' hs'' => ?_⟩
  obtain ⟨D₄, k₄⟩ := D₃.other (h' := h'') s'.toks c1 c2 c3 c4 hs'' hoC (NT.dict hdC)
  exact ⟨.obj Dd, _, D₄.add (o := .list xs) d2 d3 d4 ⟨vs, hl₃.extBut hs''.extBut hne, RVs.mono k₄ _ _ rv₃⟩, ((k₁.trans k₂).trans k₃).trans k₄, rv_obj, q Dd d1⟩
end
end Mine
end
section
open PySem PySem.W PyProof.Rows PySem.Calls PySem.Spec
set_option Elab.async false
set_option maxRecDepth 100000
set_option linter.unusedVariables false
namespace Mine
def cellsσ (args : List (Str × V)) (cs : List (Str × Addr)) (σ : Store) : Store := cs.foldr (fun p σ => upd σ p.2 (.cell (args.lookup p.1))) σ
theorem cellsσ_cons {args : List (Str × V)} {x : Str} {a : Addr} {cs} {σ : Store} : cellsσ args ((x, a) :: cs) σ = upd (cellsσ args cs σ) a (.cell (args.lookup x)) := rfl
theorem lookup_not_mem : ∀ {r : List (Str × Value)} {n : Str}, n ∉ r.map (·.1) → r.lookup n = none
  | [], _, _ => rfl
  | (k, v) :: r, n, h => by
    simp only [List.map_cons, List.mem_cons, not_or] at h
    have hb : (n == k) = false := by simpa using h.1
    rw [List.lookup_cons]; simp only [hb]; exact lookup_not_mem h.2
theorem bindL_at {kindOf : Str → Option NameKind} : ∀ {binds : List (Str × Value)} {m : Str → Option Value} {y : Str}, kindOf y = some .local → (binds.map (·.1)).Nodup → bindL kindOf binds m y = (binds.lookup y).or (m y)
  | [], m, y, _, _ => rfl
  | (n, v) :: r, m, y, hk, hn => by
    simp only [List.map_cons, List.nodup_cons] at hn
    unfold bindL
    rw [bindL_at hk hn.2, List.lookup_cons]
    by_cases hy : y = n
    · subst hy
      rw [if_pos hk, lookup_not_mem hn.1]; simp
    · have hb : (y == n) = false := by simpa using hy
      simp only [hb]
      split <;> simp [hy]
theorem bindC_at {kindOf : Str → Option NameKind} : ∀ {binds : List (Str × Value)} {m : Str → Option Value} {y : Str}, kindOf y ≠ some .local → (binds.map (·.1)).Nodup → bindC kindOf binds m y = (binds.lookup y).or (m y)
  | [], m, y, _, _ => rfl
  | (n, v) :: r, m, y, hk, hn => by
    simp only [List.map_cons, List.nodup_cons] at hn
    unfold bindC
    rw [bindC_at hk hn.2, List.lookup_cons]
    by_cases hy : y = n
    · subst hy
      rw [if_neg hk, lookup_not_mem hn.1]; simp
    · have hb : (y == n) = false := by simpa using hy
      simp only [hb]
      split <;> simp [hy]
theorem zip_none {h : Heap} : ∀ {ns : List Str} {xs : List V} {vs : List Value}, RVs h xs vs → ∀ {x : Str}, (ns.zip xs).lookup x = none → (ns.zip vs).lookup x = none
  | [], _, _, _, _, _ => by simp
  | m :: ns, [], _, r, _, _ => by rw [show _ = [] from r]; rfl
  | m :: ns, z :: xs, _, r, x, e => by
    obtain ⟨v, q, rfl, r1, r2⟩ := r
    rw [List.zip_cons_cons, List.lookup_cons] at e ⊢
    by_cases hx : x = m
    · subst hx; simp at e
    · have hb : (x == m) = false := by simpa using hx
      simp only [hb] at e ⊢
      exact zip_none r2 e
theorem zip_keys {α : Type} : ∀ (ns : List Str) (vs : List α), (ns.zip vs).map (·.1) = ns.take vs.length
  | [], _ => by simp
  | _ :: _, [] => by simp
  | n :: ns, v :: vs => by simp [zip_keys ns vs]
theorem nodup_take {α : Type} {l : List α} (n : Nat) (h : l.Nodup) : (l.take n).Nodup := h.sublist (List.take_sublist n l)
section
variable {C : Cx} {g : Gh} {σ σ' : Store} {s s' : Shared} {env : Env} {ε : Loc} {n : Nat} {A : Around} {Q : V → Store → Prop} {X : AX → Store → Prop} {QB : Bool → Store → Prop} {QS : Fl → Loc → Store → Prop} {QA : Loc → Store → Prop} {QL : List V → Store → Prop}
theorem St.cells {args : List (Str × V)} : ∀ {cs : List (Str × Addr)} (S : St C g σ s) (h : ∀ x c, (x, c) ∈ cs → RO C.prog C.w s.heap c (.cell (args.lookup x)) ∧ g c = none ∧ C.H.get? c = none), St C g (cellsσ args cs σ) s
  | [], S, _ => S
  | (x, a) :: cs, S, h => by
    rw [cellsσ_cons]
    obtain ⟨h1, h2, h3⟩ := h x a (.head _)
    exact (St.cells S fun x c hm => h x c (.tail _ hm)).add h2 h3 h1
theorem CALL_cells (O : C.Ok) {name qual : Str} {params : Arguments} {body : List Stmt} {scope : Scope} {dV kV doc pm cdv ct oc : Value} {an od : Option Addr} {osl : Array (Option Value)} {f : Addr} {names : List Str} {args : List V}
    (ho : C.K.lookup f = some ⟨oc, od, .func (fnOf name qual params body scope dV kV doc pm an cdv ct), osl⟩) (hcd : codeIn C.K cdv qual = true)
    (hb : ∀ vs : List Value, vs.length = args.length → bindArgs (fnOf name qual params body scope dV kV doc pm an cdv ct) ⟨vs, []⟩ = pure (names.zip vs)) (hn : names.Nodup)
    (hkind : ∀ y ∈ names, scope.names.lookup y = some .local ∨ (scope.names.lookup y = some .cell ∧ ∀ k, ((cellsFrom k scope.names []).lookup y).isSome = true))
    (hnd : ((cellsFrom 0 scope.names []).map (·.1)).Nodup) (hcn : ∀ y ∈ (cellsFrom 0 scope.names []).map (·.1), scope.names.lookup y ≠ some .local)
    (h : ∀ L, (∀ a, L ≤ a → σ a = none) → TS C n (envOfC qual scope L f cdv) ((names.zip args).filter fun p => scope.names.lookup p.1 == some .local) (execs body (envOfC qual scope L f cdv)) (cellsσ (names.zip args) (cellsFrom (L + 1) scope.names []) σ) (FnPost Q) X)
    (hco : scope.isCoroutine = false := by rfl) (hgen : scope.isGenerator = false := by rfl) (hk : scope.kind = .function := by rfl) :
    CALL C (n + 1) (.ref f) args σ Q X := fun A g s vs a S r => by
  have K := S.K O
  refine codeAny_call_function a.room (K _ _ ho) rfl hco hgen rfl (codeRec_of K hcd) ?_
  rw [hb vs r.length]
  have hnz : ((names.zip vs).map (·.1)).Nodup := by rw [zip_keys]; exact nodup_take _ hn
  refine wpAny_pure (wpAny_newFunctionEnv_cells hk (fun x hx => ?_) fun env' he s' x => ?_)
  · rcases hkind x.1 (List.of_mem_zip hx).1 with h1 | ⟨h1, h2⟩
    · exact .inl h1
    · exact .inr ⟨h1, h2 _⟩
  subst he
  refine ⟨(S.top O).nolimit.keeps x.toInCall.keep, codeAny_func ?_⟩
  obtain ⟨h₁, tk, rfl, _⟩ := x.done
  have hk₁ := x.toInCall.keep
  obtain ⟨f1, f2, f3⟩ := S.fresh (Nat.le_refl _)
  have S1 := S.grow (h' := h₁) tk hk₁
  have k1 : TK s.heap h₁ := .of_keeps hk₁
  have hkeys : ∀ k, (cellsFrom k scope.names []).map (·.1) = (cellsFrom 0 scope.names []).map (·.1) := fun k => cellsFrom_names scope.names k 0 [] [] rfl
  have S2 : St C g (cellsσ (names.zip args) (cellsFrom (s.heap.objs.size + 1) scope.names []) σ) { s with heap := h₁, toks := tk } := S1.cells fun y c hm => by
    have hy : y ∈ (cellsFrom 0 scope.names []).map (·.1) := by rw [← hkeys (s.heap.objs.size + 1)]; exact List.mem_map_of_mem (f := (·.1)) hm
    have hlk := lookup_of_mem_nodup (by rw [hkeys]; exact hnd) hm
    have hc := x.cell y c hlk
    have ha := x.above y c hm
    obtain ⟨c1, c2, c3⟩ := S.fresh (a := c) (Nat.le_of_lt ha)
    have hb := bindC_at (kindOf := Env.kindOf (newEnv scope s.heap.objs.size mainGlobals (cellsFrom (s.heap.objs.size + 1) scope.names []) (qual ++ ".<locals>.") (some f) cdv none builtinsNs)) (m := fun _ => none) (y := y) (hcn y hy) hnz
    rw [Option.or_none] at hb
    refine ⟨⟨_, hc, ?_⟩, c2, c3⟩
    rw [hb]
    cases q : (names.zip args).lookup y with
    | none => exact zip_none r q
    | some X =>
      obtain ⟨v, e1, e2⟩ := zip_rv r q
      exact ⟨v, e1, RV.mono k1 _ _ e2⟩
  have σL : ∀ cs : List (Str × Addr), (∀ y c, (y, c) ∈ cs → s.heap.objs.size < c) → cellsσ (names.zip args) cs σ s.heap.objs.size = none := fun cs => by
    induction cs with
    | nil => intro _; exact f1
    | cons p cs ih => intro hh; rw [cellsσ_cons (x := p.1) (a := p.2), upd_ne _ _ (Nat.ne_of_lt (hh p.1 p.2 (.head _)))]; exact ih fun y c hm => hh y c (.tail _ hm)
  have D : Hd C g (envOfC qual scope s.heap.objs.size f cdv) ((names.zip args).filter fun p => scope.names.lookup p.1 == some .local) (cellsσ (names.zip args) (cellsFrom (s.heap.objs.size + 1) scope.names []) σ) { s with heap := h₁, toks := tk } := by
    refine ⟨S2, f2, f3, σL _ fun y c hm => x.above y c hm, _, x.toInCall.ns, fun y W hy => ?_⟩
    have key : ∀ l : List (Str × V), (l.filter fun p => scope.names.lookup p.1 == some .local).lookup y = some W → l.lookup y = some W ∧ scope.names.lookup y = some .local := fun l => by
      induction l with
      | nil => intro e; cases e
      | cons p l ih =>
        intro e
        rw [List.filter_cons] at e
        rw [List.lookup_cons]
        by_cases hp : y = p.1
        · subst hp
          by_cases hq : (scope.names.lookup p.1 == some .local) = true
          · rw [if_pos hq, List.lookup_cons] at e
            simp at e ⊢
            exact ⟨e, by simpa using hq⟩
          · rw [if_neg hq] at e
            obtain ⟨_, e2⟩ := ih e
            exact absurd (by simpa using e2) hq
        · have hb : (y == p.1) = false := by simpa using hp
          simp only [hb]
          split at e
          · rw [List.lookup_cons] at e; simp only [hb] at e; exact ih e
          · exact ih e
    obtain ⟨e1, e2⟩ := key _ hy
    obtain ⟨v, e3, e4⟩ := zip_rv r e1
    refine ⟨v, ?_, RV.mono k1 _ _ e4⟩
    rw [bindL_at (m := fun _ => none) (by exact e2) hnz, e3]; rfl
  have a' : AOk C n g (some (envOfC qual scope s.heap.objs.size f cdv)) (A.deeper (envOfC qual scope s.heap.objs.size f cdv)) := a.deep rfl hk f3
  exact leave_out (s₀ := s) (R := RC C g s Q X) a' rfl k1 (h s.heap.objs.size (fun b hb => (S.fresh hb).1) _ g _ a' D) fun r s' q => by
    cases r with
    | error e => exact q
    | ok fl => cases fl <;> exact q
theorem CALL_clos (O : C.Ok) {name qual : Str} {params : Arguments} {body : List Stmt} {scope : Scope} {cl : List (Str × Addr)} {doc pm ctv : Value} {c' f : Addr} {oc : Obj} {ws : Array Value} {t : Tok} {names : List Str} {args : List V}
    (ho : σ f = some (.raw (fnMade name qual params body scope cl doc pm c' ctv))) (hc : σ c' = some (.raw oc)) (hd : oc.data = .fields ws) (hv : ws[1]? = some (.str qual t))
    (hb : ∀ vs : List Value, vs.length = args.length → bindArgs (fnX name qual params body scope cl .none .none doc pm none (.ref c') ctv) ⟨vs, []⟩ = pure (names.zip vs)) (hn : names.Nodup)
    (hloc : ∀ y ∈ names, scope.names.lookup y = some .local)
    (h : ∀ L, (∀ a, L ≤ a → σ a = none) → TS C n (envX qual scope L f (.ref c') cl) (names.zip args) (execs body (envX qual scope L f (.ref c') cl)) σ (FnPost Q) X)
    (hco : scope.isCoroutine = false := by rfl) (hgen : scope.isGenerator = false := by rfl) (hk : scope.kind = .function := by rfl) (hcell : ∀ x ∈ scope.names, x.2 ≠ .cell := by decide) :
    CALL C (n + 1) (.ref f) args σ Q X := fun A g s vs a S r => by
  refine codeAny_call_def (fd := fnX name qual params body scope cl .none .none doc pm none (.ref c') ctv) (body := body) (binds := names.zip vs) a.room (S.sim f _ ho) rfl (S.top O).nolimit ⟨c', oc, ws, t, rfl, S.sim c' _ hc, hd, hv⟩ rfl (BindsTo.of_eq (hb vs r.length)) hcell
    (fun y hy => hloc _ (List.of_mem_zip hy).1) (fun h₁ hns hk₁ => ?_) hco hgen hk
  obtain ⟨f1, f2, f3⟩ := S.fresh (Nat.le_refl _)
  have S1 := S.grow (h' := h₁) (s.toks + (names.zip vs).length) hk₁
  have k1 : TK s.heap h₁ := .of_keeps hk₁
  have D : Hd C g (envX qual scope s.heap.objs.size f (.ref c') cl) (names.zip args) σ { s with heap := h₁, toks := s.toks + (names.zip vs).length } :=
    ⟨S1, f2, f3, f1, _, hns, fun x V hx => by
      obtain ⟨v, e1, e2⟩ := zip_rv r hx
      exact ⟨v, (zip_lookup hn x).trans e1, RV.mono k1 _ _ e2⟩⟩
  have a' : AOk C n g (some (envX qual scope s.heap.objs.size f (.ref c') cl)) (A.deeper (envX qual scope s.heap.objs.size f (.ref c') cl)) := a.deep rfl hk f3
  exact leave_out (s₀ := s) (R := RC C g s Q X) a' rfl k1 (h s.heap.objs.size (fun b hb => (S.fresh hb).1) _ g _ a' D) fun r s' q => by
    cases r with
    | error e => exact q
    | ok fl => cases fl <;> exact q
theorem CALL_lam (O : C.Ok) {name qual : Str} {params : Arguments} {body : Expr} {scope : Scope} {cl : List (Str × Addr)} {pm ctv : Value} {c' f : Addr} {oc : Obj} {ws : Array Value} {t : Tok} {names : List Str} {args : List V}
    (ho : σ f = some (.raw (kla_obj name qual params body scope cl pm c' ctv))) (hc : σ c' = some (.raw oc)) (hd : oc.data = .fields ws) (hv : ws[1]? = some (.str qual t))
    (hb : ∀ vs : List Value, vs.length = args.length → bindArgs (kla_fn name qual params body scope cl pm (.ref c') ctv) ⟨vs, []⟩ = pure (names.zip vs)) (hn : names.Nodup)
    (hloc : ∀ y ∈ names, scope.names.lookup y = some .local)
    (h : ∀ L, (∀ a, L ≤ a → σ a = none) → EV C n (envX qual scope L f (.ref c') cl) (names.zip args) body σ Q X)
    (hco : scope.isCoroutine = false := by rfl) (hgen : scope.isGenerator = false := by rfl) (hk : scope.kind = .function := by rfl) (hcell : ∀ x ∈ scope.names, x.2 ≠ .cell := by decide) :
    CALL C (n + 1) (.ref f) args σ Q X := fun A g s vs a S r => by
  refine kla_callFunE a.room (S.sim f _ ho) rfl hco hgen rfl ⟨c', oc, ws, t, rfl, S.sim c' _ hc, hd, hv⟩ ?_
  rw [hb vs r.length]
  refine wpAny_pure (wpAny_newFunctionEnv hcell (fun y hy => hloc _ (List.of_mem_zip hy).1) (fun h₁ hns hsb => ⟨((S.top O).nolimit).fresh _ hsb, ?_⟩) hk)
  show codeAny _ _ (.expr body (envX qual scope s.heap.objs.size f (.ref c') cl)) _ _
  have hk₁ : ∀ b o, s.heap.get? b = some o → h₁.get? b = some o := fun b o e => hsb.extBut b o (Nat.ne_of_lt (Heap.lt_size e)) (Heap.get?_push_of_some _ e)
  obtain ⟨f1, f2, f3⟩ := S.fresh (Nat.le_refl _)
  have S1 := S.grow (h' := h₁) (s.toks + (names.zip vs).length) hk₁
  have k1 : TK s.heap h₁ := .of_keeps hk₁
  have D : Hd C g (envX qual scope s.heap.objs.size f (.ref c') cl) (names.zip args) σ { s with heap := h₁, toks := s.toks + (names.zip vs).length } :=
    ⟨S1, f2, f3, f1, _, hns, fun x V hx => by
      obtain ⟨v, e1, e2⟩ := zip_rv r hx
      exact ⟨v, (zip_lookup hn x).trans e1, RV.mono k1 _ _ e2⟩⟩
  have a' : AOk C n g (some (envX qual scope s.heap.objs.size f (.ref c') cl)) (A.deeper (envX qual scope s.heap.objs.size f (.ref c') cl)) := a.deep rfl hk f3
  refine kla_codeExpr (wpAny_mono (h s.heap.objs.size (fun b hb => (S.fresh hb).1) _ g _ a' D) (fun v s' ⟨x, σ', D', k, rv, q⟩ => ?_) fun e s' ⟨ax, σ', ε', b, D', k, rx, q⟩ => leaving_rx a' D' rfl rx fun h' D'' k' rx' => ?_)
  · exact ⟨x, σ', D'.S, k1.trans k, rv, q⟩
  · exact ⟨ax, σ', true, D''.S, (k1.trans k).trans k', rx'.out, q⟩
theorem builtins_at (O : C.Ok) (S : St C g σ s) {P : Addr} {ob : Obj} (hP : σ P = some (.raw ob)) : mainGlobals ≠ P ∧ s.heap.BuiltinsAt C.mg P := by
  have T := S.top O
  have hH := S.hσ P (by rw [hP]; exact nofun)
  obtain ⟨bm, ob', b1, b2, b3, b4, b5, b6⟩ := O.T.bmain
  have hgP : mainGlobals ≠ P := fun q => by
    obtain ⟨o, es, ep, e, hd, _⟩ := O.T.g
    rw [q, hH] at e; cases e
  have hbP : bm ≠ P := fun q => by rw [q, hH] at b3; cases b3
  have hbG : bm ≠ mainGlobals := fun q => by
    obtain ⟨o, es, ep, e, hd, _⟩ := O.T.g
    rw [q, e] at b3; cases b3; rw [hd] at b6; cases b6
  exact ⟨hgP, bm, ob', b1, b2, hbG, hbP, S.base _ _ b3, b4, b5, b6⟩
theorem Hd.made (D : Hd C g env ε σ s) {P c' : Addr} {ps : Array Value} {h' : Heap} {tk : Tok} {oc fo oT : Obj} (hP : σ P = some (.raw (tabObj ps))) (hx : Heap.ExtBut P s.heap h') (hge : s.heap.objs.size ≤ c') (hlt : c' < h'.objs.size)
    (hoc : h'.get? c' = some oc) (hT : h'.get? P = some oT) (hf : fo.isFreed = false) :
    σ c' = none ∧ σ h'.objs.size = none ∧ c' ≠ h'.objs.size ∧ Hd C g env ε (upd (upd (upd σ P (.raw oT)) c' (.raw oc)) h'.objs.size (.raw fo)) { s with heap := h'.push fo, toks := tk } ∧ TK s.heap (h'.push fo) := by
  have hPs := D.S.sim P _ hP
  have hg : g P = none := D.S.gσ P (by rw [hP]; exact nofun)
  have hH := D.S.hσ P (by rw [hP]; exact nofun)
  have hL : P ≠ env.locals := fun q => by have := D.F.σL; rw [← q, hP] at this; cases this
  have fc := D.fresh hge
  have ff := D.fresh (a := h'.objs.size) (Nat.le_of_lt (Nat.lt_of_le_of_lt hge hlt))
  have hPn : NT (tabObj ps) := NT.fields rfl
  have k : TK s.heap h' := fun b x e c ⟨xs, m, d⟩ => hx b x (fun q => by subst q; rw [show s.heap.get? b = some (tabObj ps) from hPs] at e; cases e; exact hPn xs m d c) e
  -- P is dropped first
  have S0 : St C g (drop σ P) { s with heap := h', toks := tk } := by
    refine ⟨fun b x e => hx b x (fun q => by rw [q, hH] at e; cases e) (D.S.base b x e), fun b x e => let ⟨o', q, z⟩ := D.S.gs b x e; ⟨o', hx b o' (fun q => by rw [q, hg] at e; cases e) q, z⟩, D.S.gt, fun b x e => ?_, fun b e => ?_, fun b e => ?_, D.S.gh, D.S.gens, D.S.os⟩
    · by_cases hb : b = P
      · subst hb; simp [drop] at e
      · rw [drop_ne _ hb] at e
        obtain ⟨ob, q⟩ := (D.S.sim b x e).there
        exact (D.S.sim b x e).mono_of k ((hx b ob hb q).trans q.symm)
    · by_cases hb : b = P
      · subst hb; simp [drop] at e
      · rw [drop_ne _ hb] at e; exact D.S.gσ b e
    · by_cases hb : b = P
      · subst hb; simp [drop] at e
      · rw [drop_ne _ hb] at e; exact D.S.hσ b e
  have dL : drop σ P env.locals = none := by rw [drop_ne _ (Ne.symm hL)]; exact D.F.σL
  have D0 : Hd C g env ε (drop σ P) { s with heap := h', toks := tk } := ⟨S0, D.F.keeps (h' := h') (fun o e => hx _ _ (Ne.symm hL) e) k rfl dL⟩
  have D1 := D0.add (a := P) (o := .raw oT) hg hH hL hT
  rw [upd_drop] at D1
  have D2 := D1.add (a := c') (o := .raw oc) fc.2.1 fc.2.2.1 fc.2.2.2 hoc
  have D3 := (D2.push fo tk).add (a := h'.objs.size) (o := .raw fo) ff.2.1 ff.2.2.1 ff.2.2.2 (Heap.get?_push_size _ hf)
  exact ⟨fc.1, ff.1, Nat.ne_of_lt hlt, D3, k.trans (TK.push _ _)⟩
theorem TS_Def (O : C.Ok) {name : Str} {params : Arguments} {body : List Stmt} {scope : Scope} {pos : Pos} {clos : List (Str × Addr)} {c P : Addr} {ps : Array Value}
    (hcode : env.code = .ref c) (hC : CodeHd C.H c P) (hP : σ P = some (.raw (tabObj ps))) (ht : TriplesOk ps.toList) (hnf : codeAmong pos ps.toList = none) (hcl : closureFor scope env = pure clos) (hge0 : env.globals = mainGlobals)
    (hd0 : params.defaults = []) (hk0 : params.kw_defaults = []) (ha : annTrees params none env = [])
    (h : ∀ f c' oc ws t doc pm ctv, σ c' = none → σ f = none → c' ≠ f → oc.data = .fields ws → ws[1]? = some (.str (qualnameIn env name name) t) →
      SN C n env ε name (.obj f) (upd (upd (upd σ P (.raw (tabObj (ps ++ #[rawInt pos.line, rawInt pos.col, .ref c'])))) c' (.raw oc)) f (.raw (fnMade name (qualnameIn env name name) params body scope clos doc pm c' ctv))) QS X) :
    TS C n env ε (exec (.FunctionDef name params body [] none [] scope none name pos) env) σ QS X := fun A g s a D => by
  obtain ⟨hgP, hb⟩ := builtins_at O D.S hP
  refine nestDef_K hd0 hk0 ha (makeFunction_K (mg := C.mg) hcl hge0 (D.S.top O).g hcode (hC.keeps D.S.base) (D.S.sim P _ hP) ht hnf hgP hb fun c' ctv doc h' tk hx hge hlt hrec htb => ?_)
  obtain ⟨c₂, oc, ws, t, e2, hoc, hd, hv⟩ := hrec
  cases e2
  obtain ⟨e1, e2, e3, D', k⟩ := D.made (tk := tk) (fo := fnMade name (qualnameIn env name name) params body scope clos doc ((C.mg "__name__").getD .none) c' ctv) hP hx hge hlt hoc htb rfl
  exact wpAny_mono (h _ c' oc ws t doc _ ctv e1 e2 e3 hd hv A g _ _ a D' rv_obj) (fun _ _ z => z.trans k) fun _ _ z => z.trans k
theorem EV_Lambda (O : C.Ok) {params : Arguments} {body : Expr} {scope : Scope} {pos : Pos} {clos : List (Str × Addr)} {c P : Addr} {ps : Array Value}
    (hcode : env.code = .ref c) (hC : CodeHd C.H c P) (hP : σ P = some (.raw (tabObj ps))) (ht : TriplesOk ps.toList) (hnf : codeAmong pos ps.toList = none) (hcl : closureFor scope env = pure clos) (hge0 : env.globals = mainGlobals)
    (hdef : defaultsOf params env = ([], []))
    (h : ∀ f c' oc ws t pm ctv, σ c' = none → σ f = none → c' ≠ f → oc.data = .fields ws → ws[1]? = some (.str (env.qual ++ "<lambda>") t) →
      Q (.obj f) (upd (upd (upd σ P (.raw (tabObj (ps ++ #[rawInt pos.line, rawInt pos.col, .ref c'])))) c' (.raw oc)) f (.raw (kla_obj "<lambda>" (env.qual ++ "<lambda>") params body scope clos pm c' ctv)))) :
    EV C n env ε (.Lambda params body scope pos) σ Q X := fun A g s a D => by
  obtain ⟨hgP, hb⟩ := builtins_at O D.S hP
  refine kla_eval hdef (kla_makeFunction (mg := C.mg) hcl hge0 (D.S.top O).g hcode (hC.keeps D.S.base) (D.S.sim P _ hP) ht hnf hgP hb fun c' ctv h' tk hx hge hlt hrec htb => ?_)
  obtain ⟨c₂, oc, ws, t, e2, hoc, hd, hv⟩ := hrec
  cases e2
  obtain ⟨e1, e2, e3, D', k⟩ := D.made (tk := tk) (fo := kla_obj "<lambda>" (env.qual ++ "<lambda>") params body scope clos ((C.mg "__name__").getD .none) c' ctv) hP hx hge hlt hoc htb rfl
  exact ⟨.obj _, _, D', k, rv_obj, h _ c' oc ws t _ ctv e1 e2 e3 hd hv⟩
end
end Mine
end
section
open PySem PySem.W PyProof.Rows PySem.Calls PySem.Spec
set_option Elab.async false
set_option maxRecDepth 100000
set_option linter.unusedVariables false
namespace Mine
section
variable {K : Type} [DecidableEq K]
def storedA (es : List (K × V)) (k : K) (x : V) : List (K × V) := if es.any (fun kv => kv.1 = k) then es.map (fun kv => if kv.1 = k then (kv.1, x) else kv) else es ++ [(k, x)]
def valueA (es : List (K × V)) (k : K) : Option V := (es.find? fun kv => kv.1 = k).map (·.2)
theorem RPairs.any {h : Heap} {k : K} : ∀ {es : List (K × V)} {kvs : List (K × Value)}, RPairs h es kvs → (kvs.any fun kv => decide (kv.1 = k)) = es.any fun kv => decide (kv.1 = k)
  | [], _, r => by rw [show _ = [] from r]; rfl
  | (a, x) :: es, _, r => by obtain ⟨v, q, rfl, _, r2⟩ := r; simp only [List.any_cons, RPairs.any r2]
theorem RPairs.put {h : Heap} {k : K} {x : V} {v : Value} (rv : RV h x v) : ∀ {es : List (K × V)} {kvs : List (K × Value)}, RPairs h es kvs → RPairs h (es.map fun kv => if kv.1 = k then (kv.1, x) else kv) (kvs.map fun kv => if kv.1 = k then (kv.1, v) else kv)
  | [], _, r => by rw [show _ = [] from r]; rfl
  | (a, y) :: es, _, r => by
    obtain ⟨w, q, rfl, r1, r2⟩ := r
    simp only [List.map_cons]
    by_cases e : a = k
    · simp only [e, if_true]; exact ⟨v, _, rfl, rv, RPairs.put rv r2⟩
    · simp only [e, if_false]; exact ⟨w, _, rfl, r1, RPairs.put rv r2⟩
theorem RPairs.snoc {h : Heap} {k : K} {x : V} {v : Value} (rv : RV h x v) : ∀ {es : List (K × V)} {kvs : List (K × Value)}, RPairs h es kvs → RPairs h (es ++ [(k, x)]) (kvs ++ [(k, v)])
  | [], _, r => by rw [show _ = [] from r]; exact ⟨v, [], rfl, rv, rfl⟩
  | (a, y) :: es, _, r => by obtain ⟨w, q, rfl, r1, r2⟩ := r; exact ⟨w, _, rfl, r1, RPairs.snoc rv r2⟩
theorem RPairs.stored {h : Heap} {k : K} {x : V} {v : Value} (rv : RV h x v) {es : List (K × V)} {kvs : List (K × Value)} (r : RPairs h es kvs) : RPairs h (storedA es k x) (stored kvs k v) := by
  unfold storedA PySem.stored
  rw [r.any]
  split
  · exact r.put rv
  · exact r.snoc rv
theorem RPairs.valueAt {h : Heap} {k : K} : ∀ {es : List (K × V)} {kvs : List (K × Value)}, RPairs h es kvs → (match valueA es k with | some x => ∃ v, valueAt kvs k = some v ∧ RV h x v | none => valueAt kvs k = none)
  | [], _, r => by rw [show _ = [] from r]; rfl
  | (a, y) :: es, _, r => by
    obtain ⟨w, q, rfl, r1, r2⟩ := r
    have ih := RPairs.valueAt (k := k) r2
    unfold valueA PySem.valueAt at *
    simp only [List.find?_cons]
    by_cases e : a = k
    · simp only [e, decide_true]; exact ⟨w, rfl, r1⟩
    · simp only [e, decide_false]; exact ih
end
def RPV (h : Heap) : List (V × V) → List (Value × Value) → Prop
  | [], vs => vs = []
  | (k, x) :: l, vs => ∃ kv v r, vs = (kv, v) :: r ∧ RV h k kv ∧ RV h x v ∧ RPV h l r
theorem RPV.strs {prog : Program} {w : World} {h : Heap} : ∀ {es : List (Str × V)} {vs : List (Value × Value)}, RPV h (es.map fun p => (.str p.1, p.2)) vs → ∃ kvs, Carries (PySem.strKind prog w) vs kvs ∧ RPairs h es kvs ∧ kvs.map (·.1) = es.map (·.1)
  | [], _, r => by rw [show _ = [] from r]; exact ⟨[], trivial, rfl, rfl⟩
  | (a, x) :: es, _, r => by
    obtain ⟨kv, v, q, rfl, ⟨t, rfl⟩, r2, r3⟩ := r
    obtain ⟨kvs, c, p, e⟩ := RPV.strs (prog := prog) (w := w) r3
    exact ⟨(a, v) :: kvs, ⟨by simp [PySem.strKind, Value.isStrOf], rfl, c⟩, ⟨v, kvs, rfl, r2, p⟩, by simp [e]⟩
structure TP (C : Cx) (n : Nat) (env : Env) (ε : Loc) (ks : List (Option Expr)) (vs : List Expr) (pos : Pos) (σ : Store) (Q : List (V × V) → Store → Prop) (X : AX → Store → Prop) : Prop where
  run : ∀ A g s, AOk C n g (some env) A → Hd C g env ε σ s → wpAny C.M A (evalPairs (pairTrees ks vs env pos)) (fun ws s' => ∃ xs σ', Hd C g env ε σ' s' ∧ TK s.heap s'.heap ∧ RPV s'.heap xs ws ∧ Q xs σ') (PostX C g env s X) s
section
variable {C : Cx} {g : Gh} {σ σ' : Store} {s s' : Shared} {env : Env} {ε : Loc} {n : Nat} {A : Around} {Q : V → Store → Prop} {X : AX → Store → Prop} {QB : Bool → Store → Prop} {QS : Fl → Loc → Store → Prop} {QA : Loc → Store → Prop} {QL : List V → Store → Prop} {QP : List (V × V) → Store → Prop}
theorem fresh_mod (O : C.Ok) (S : St C g σ s) {a : Addr} (ha : s.heap.objs.size ≤ a) : (a == sysModules) = false := by
  have := modules_low (S.top O).nolimit
  rw [beq_eq_false_iff_ne]; intro q; subst q; exact absurd this (Nat.not_lt.mpr ha)
abbrev Qtup (Q : V → Store → Prop) : List V → Store → Prop := fun xs σ₁ => xs.length ≤ 1000000 ∧ Q (.tup xs) σ₁
theorem EV_Tuple {es : List Expr} {k : Nat} {pos : Pos} (h : TL C n env ε (spliced (backTo pos (starEach es env))) σ (Qtup Q) X) : EV C n env ε (.Tuple es k pos) σ Q X := fun A g s a D =>
  wpAny_Tuple (wpAny_mono (h A g s a D) (fun vs s₁ ⟨xs, σ₁, D₁, k₁, r₁, hl, q⟩ => ⟨by rw [r₁.length, sizeLine_eq]; omega, .tup xs, σ₁, D₁.push _ s₁.toks, k₁.trans (TK.push _ _), rv_tup ⟨_, Heap.get?_push_size _ rfl, rfl, _, rfl⟩ (RVs.mono (TK.push _ _) _ _ r₁), q⟩) fun _ _ z => z)
abbrev Qlst (Q : V → Store → Prop) : List V → Store → Prop := fun xs σ₁ => xs.length ≤ 1000000 ∧ ∀ l, σ₁ l = none → Q (.obj l) (upd σ₁ l (.list xs))
theorem EV_List {es : List Expr} {pos : Pos} (h : TL C n env ε (spliced (backTo pos (starEach es env))) σ (Qlst Q) X) : EV C n env ε (.List es pos) σ Q X := fun A g s a D =>
  wpAny_List (wpAny_mono (h A g s a D) (fun vs s₁ ⟨xs, σ₁, D₁, k₁, r₁, hl, q⟩ => ⟨by rw [r₁.length, sizeLine_eq]; omega, by
    obtain ⟨f1, D₂, k₂⟩ := D₁.alloc { cls := .type "list", data := .seq vs.toArray } s₁.toks (x := .list xs) ⟨vs, PL.new _ _ _, RVs.mono (TK.push _ _) _ _ r₁⟩
    exact ⟨.obj _, _, D₂, k₁.trans k₂, rv_obj, q _ f1⟩⟩) fun _ _ z => z)
theorem EV_Dict0S (O : C.Ok) {pos : Pos} (h : ∀ d, σ d = none → Q (.obj d) (upd σ d (.dictS [] 0))) : EV C n env ε (.Dict [] [] pos) σ Q X := fun A g s a D => by
  refine wpAny_Dict_empty ?_
  obtain ⟨f1, D₂, k₂⟩ := D.alloc { cls := .type "dict", data := .dict #[] } s.toks (x := .dictS [] 0) ⟨fresh_mod O D.S (Nat.le_refl _), [], ⟨_, #[], Heap.get?_push_size _ rfl, ⟨rfl, rfl, rfl⟩, rfl, fun _ he => by simp at he, Pairs.nil, List.nodup_nil⟩, rfl⟩
  exact ⟨.obj _, _, D₂, k₂, rv_obj, h _ f1⟩
theorem EV_Dict0I (O : C.Ok) {pos : Pos} (h : ∀ d, σ d = none → Q (.obj d) (upd σ d (.dictI [] 0))) : EV C n env ε (.Dict [] [] pos) σ Q X := fun A g s a D => by
  refine wpAny_Dict_empty ?_
  obtain ⟨f1, D₂, k₂⟩ := D.alloc { cls := .type "dict", data := .dict #[] } s.toks (x := .dictI [] 0) ⟨fresh_mod O D.S (Nat.le_refl _), [], ⟨_, #[], Heap.get?_push_size _ rfl, ⟨rfl, rfl, rfl⟩, rfl, fun _ he => by simp at he, Pairs.nil, List.nodup_nil⟩, rfl⟩
  exact ⟨.obj _, _, D₂, k₂, rv_obj, h _ f1⟩
theorem TP_nil {pos : Pos} (h : QP [] σ) : TP C n env ε [] [] pos σ QP X := ⟨fun A g s a D => pairTrees_nil_walk ⟨[], σ, D, TK.refl _, rfl, h⟩⟩
theorem TP_cons {k v : Expr} {ks : List (Option Expr)} {vs : List Expr} {pos : Pos} (h : EV C n env ε k σ (fun x σ₁ => EV C n env ε v σ₁ (fun y σ₂ => TP C n env ε ks vs pos σ₂ (fun xs => QP ((x, y) :: xs)) X) X) X) : TP C n env ε (some k :: ks) (v :: vs) pos σ QP X := ⟨fun A g s a D =>
  pairTrees_cons_walk (h.use a D (fun kv x σ₁ s₁ D₁ k₁ r₁ h₁ => h₁.use a D₁ (fun vv y σ₂ s₂ D₂ k₂ r₂ h₂ => wpAny_mono (h₂.run A g s₂ a D₂) (fun ws s₃ ⟨xs, σ₃, D₃, k₃, r₃, q⟩ =>
    ⟨(x, y) :: xs, σ₃, D₃, (k₁.trans k₂).trans k₃, ⟨kv, vv, ws, rfl, RV.mono (k₂.trans k₃) _ _ r₁, RV.mono k₃ _ _ r₂, r₃⟩, q⟩) fun _ _ z => z.trans (k₁.trans k₂)) fun _ _ z => z.trans k₁) fun _ _ z => z)⟩
inductive DsP (Q : V → Store → Prop) (d : Addr) (xs : List (V × V)) (σ₁ : Store) : Prop
  | mk (es : List (Str × V)) (e : xs = es.map (fun p => (.str p.1, p.2))) (hn : (es.map (·.1)).Nodup) (hd : σ₁ d = some (.dictS [] 0)) (q : ∀ ep, Q (.obj d) (upd σ₁ d (.dictS es ep)))
theorem EV_DictS (O : C.Ok) {ks : List (Option Expr)} {vs : List Expr} {pos : Pos} (h : ∀ d, σ d = none → TP C n env ε ks vs pos (upd σ d (.dictS [] 0)) (DsP Q d) X)
    (hall : ks.all (·.isSome) = true := by rfl) (hl : ks.length = vs.length := by rfl) (h0 : ks ≠ [] := by exact nofun) (hlen : ks.length ≤ 15 := by decide) : EV C n env ε (.Dict ks vs pos) σ Q X := fun A g s a D => by
  refine wpAny_Dict_walk (knd := PySem.strKind C.prog C.w) hall hl h0 hlen ?_
  obtain ⟨f1, D1, k1⟩ := D.alloc { cls := .type "dict", data := .dict #[] } s.toks (x := .dictS [] 0) ⟨fresh_mod O D.S (Nat.le_refl _), [], ⟨_, #[], Heap.get?_push_size _ rfl, ⟨rfl, rfl, rfl⟩, rfl, fun _ he => by simp at he, Pairs.nil, List.nodup_nil⟩, rfl⟩
  refine wpAny_mono ((h _ f1).run A _ _ a D1) (fun ws s₁ ⟨xs, σ₁, D₂, k₂, r₂, es, e, hn, hd, q⟩ => ?_) fun _ _ z => z.trans k1
  subst e
  obtain ⟨kvs, c, p, ek⟩ := RPV.strs (prog := C.prog) (w := C.w) r₂
  obtain ⟨hsys, kv0, hD, hr0⟩ := D₂.S.sim _ _ hd
  rw [show kv0 = [] from hr0] at hD
  refine ⟨kvs, c, hD.dictOf, fun h' hd' hs' => ?_⟩
  rw [merged_nil_of_nodup _ (by rw [ek]; exact hn)] at hd'
  obtain ⟨ep, hda⟩ := hd'.dictAt
  obtain ⟨o, es', ho, _, hdd, _⟩ := id hD
  obtain ⟨D₃, k₃⟩ := D₂.set (h' := h') (x := .dictS es ep) (s₁.toks + ws.length) hd hs' ho (NT.dict hdd) fun k => ⟨hsys, kvs, hda, p.mono k⟩
  exact ⟨.obj _, _, D₃, (k1.trans k₂).trans k₃, rv_obj, q ep⟩
theorem EV_Sub {value slice : Expr} {pos : Pos} (h : EV C n env ε value σ (Qe2 C n env ε slice (subscriptTail value slice) Q X) X) : EV C n env ε (.Subscript value slice pos) σ Q X := fun A g s a D =>
  Subscript_ (h.use a D (fun v x σ₁ s₁ D₁ k₁ r₁ h₁ => h₁.use a D₁ (fun w y σ₂ s₂ D₂ k₂ r₂ h₂ => wpAny_mono (h₂ A g s₂ v w a D₂ (RV.mono k₂ _ _ r₁) r₂) (fun _ _ z => z.trans (k₁.trans k₂)) fun _ _ z => z.trans (k₁.trans k₂))
    fun _ _ z => z.trans k₁) fun _ _ z => z)
theorem sub_tup {value slice : Expr} {l : List V} {k : Int} {j : Nat} {x : V} (hj : seqIndex? k l.length = some j) (hx : l[j]? = some x) (h : Q x σ) (hlo : -(2 ^ 63) ≤ k := by omega) (hhi : k < 2 ^ 63 := by omega)
    (hs : ∀ o i, subscripted slice false o i = operate [o, i] (getItem o i) := by intro _ _; with_unfolding_all rfl) : OP2 C n env ε (subscriptTail value slice) (.tup l) (.int k) σ Q X := fun A g s v w a D r r' => by
  obtain ⟨t, vs, rfl, ht, hv⟩ := r
  obtain ⟨u, rfl⟩ := r'
  obtain ⟨v, e1, e2⟩ := hv.get hx
  exact tail_any ht.typeIs slot_tuple_getitem.lookup (getItem_tuple ht hlo hhi (by rw [List.size_toArray, hv.length]; exact hj) (by simpa using e1) (pp D e2 h)) (hs _ _)
theorem sub_list {value slice : Expr} {a : Addr} {l : List V} {k : Int} {x : V} (hl : σ a = some (.list l)) (h0 : 0 ≤ k) (hx : l[k.toNat]? = some x) (h : Q x σ) (hhi : k < 2 ^ 63 := by omega)
    (hs : ∀ o i, subscripted slice false o i = operate [o, i] (getItem o i) := by intro _ _; with_unfolding_all rfl) : OP2 C n env ε (subscriptTail value slice) (.obj a) (.int k) σ Q X := fun A g s v w hA D r r' => by
  rw [show v = _ from r]
  obtain ⟨u, rfl⟩ := r'
  obtain ⟨vs, hls, hv⟩ := D.S.sim a _ hl
  obtain ⟨v, e1, e2⟩ := hv.get hx
  exact tail_any hls.isList.typeIs slot_list_getitem.lookup (wpAny_getItem_list hls.isList h0 hhi (by simpa using e1) (pp D e2 h)) (hs _ _)
theorem sub_dictS {value slice : Expr} {a : Addr} {es : List (Str × V)} {ep : Nat} {k : Str} {x : V} (hl : σ a = some (.dictS es ep)) (hx : valueA es k = some x) (h : Q x σ)
    (hs : ∀ o i, subscripted slice false o i = operate [o, i] (getItem o i) := by intro _ _; with_unfolding_all rfl) : OP2 C n env ε (subscriptTail value slice) (.obj a) (.str k) σ Q X := fun A g s v w hA D r r' => by
  rw [show v = _ from r]
  obtain ⟨u, rfl⟩ := r'
  obtain ⟨hsys, kvs, hd, hp⟩ := D.S.sim a _ hl
  have z := hp.valueAt (k := k)
  rw [hx] at z
  obtain ⟨v, e1, e2⟩ := z
  exact tail_any hd.dictOf.typeIs slot_dict_getitem.lookup (wpAny_getItem_of (knd := PySem.strKind C.prog C.w) (k := k) (by simp [PySem.strKind, Value.isStrOf]) hd.dictOf.mapOf e1 (ppt D _ e2 h)) (hs _ _)
theorem sub_dictI {value slice : Expr} {a : Addr} {es : List (Int × V)} {ep : Nat} {k : Int} {x : V} (hl : σ a = some (.dictI es ep)) (hx : valueA es k = some x) (h : Q x σ)
    (hs : ∀ o i, subscripted slice false o i = operate [o, i] (getItem o i) := by intro _ _; with_unfolding_all rfl) : OP2 C n env ε (subscriptTail value slice) (.obj a) (.int k) σ Q X := fun A g s v w hA D r r' => by
  rw [show v = _ from r]
  obtain ⟨u, rfl⟩ := r'
  obtain ⟨hsys, kvs, hd, hp⟩ := D.S.sim a _ hl
  have z := hp.valueAt (k := k)
  rw [hx] at z
  obtain ⟨v, e1, e2⟩ := z
  exact tail_any hd.dictOf.typeIs slot_dict_getitem.lookup (wpAny_getItem_of (knd := intKind C.prog C.w) (k := k) (by simp [intKind, Value.isInt]) hd.dictOf.mapOf e1 (ppt D _ e2 h)) (hs _ _)
theorem in_dictS {a : Addr} {es : List (Str × V)} {ep : Nat} {k : Str} (hl : σ a = some (.dictS es ep)) (h : Q (.bool (valueA es k).isSome) σ) : OP2 C n env ε (compareOp .In) (.str k) (.obj a) σ Q X := fun A g s v w hA D r r' => by
  rw [show w = _ from r']
  obtain ⟨u, rfl⟩ := r
  obtain ⟨hsys, kvs, hd, hp⟩ := D.S.sim a _ hl
  have e : (valueAt kvs k).isSome = (valueA es k).isSome := by
    have z := hp.valueAt (k := k)
    cases q : valueA es k with
    | none => rw [q] at z; rw [z]; rfl
    | some x => rw [q] at z; obtain ⟨v, e1, _⟩ := z; rw [e1]; rfl
  exact wpAny_in_of (knd := PySem.strKind C.prog C.w) (k := k) (by simp [PySem.strKind, Value.isStrOf]) hsys hd.dictOf.mapOf (ppt D _ (show RV s.heap (.bool (valueA es k).isSome) _ by rw [e]; rfl) h)
def OPU (C : Cx) (n : Nat) (env : Env) (ε : Loc) (o i x : V) (σ : Store) (QU : Store → Prop) (X : AX → Store → Prop) : Prop :=
  ∀ A g s vo vi v, AOk C n g (some env) A → Hd C g env ε σ s → RV s.heap o vo → RV s.heap i vi → RV s.heap x v → wpAny C.M A (setItem vo vi v) (fun _ s' => ∃ σ', Hd C g env ε σ' s' ∧ TK s.heap s'.heap ∧ QU σ') (PostX C g env s X) s
abbrev Qss3 (C : Cx) (n : Nat) (env : Env) (ε : Loc) (x ov : V) (QS : Fl → Loc → Store → Prop) (X : AX → Store → Prop) : V → Store → Prop := fun iv σ₃ => OPU C n env ε ov iv x σ₃ (QS .next ε) X
abbrev Qss2 (C : Cx) (n : Nat) (env : Env) (ε : Loc) (i : Expr) (x : V) (QS : Fl → Loc → Store → Prop) (X : AX → Store → Prop) : V → Store → Prop := fun ov σ₂ => EV C n env ε i σ₂ (Qss3 C n env ε x ov QS X) X
abbrev Qss1 (C : Cx) (n : Nat) (env : Env) (ε : Loc) (o i : Expr) (QS : Fl → Loc → Store → Prop) (X : AX → Store → Prop) : V → Store → Prop := fun x σ₁ => EV C n env ε o σ₁ (Qss2 C n env ε i x QS X) X
theorem TS_SetSub {o i e : Expr} {p' pos : Pos} (h : EV C n env ε e σ (Qss1 C n env ε o i QS X) X)
    (hs : swapsWith e (some (.Subscript o i p')) pos.line env = pure false := by rfl) : TS C n env ε (exec (.Assign [.Subscript o i p'] e pos) env) σ QS X := fun A g s a D =>
  wpAny_Assign_Subscript (h.use a D (fun v x σ₁ s₁ D₁ k₁ r₁ h₁ => h₁.use a D₁ (fun vo ov σ₂ s₂ D₂ k₂ r₂ h₂ => h₂.use a D₂ (fun vi iv σ₃ s₃ D₃ k₃ r₃ h₃ => wpAny_mono (h₃ A g s₃ vo vi v a D₃ (RV.mono k₃ _ _ r₂) r₃ (RV.mono (k₂.trans k₃) _ _ r₁))
    (fun _ s₄ ⟨σ₄, D₄, k₄, q⟩ => ⟨.next, ε, σ₄, D₄, ((k₁.trans k₂).trans k₃).trans k₄, rfl, q⟩) fun _ _ z => z.trans ((k₁.trans k₂).trans k₃)) fun _ _ z => z.trans (k₁.trans k₂)) fun _ _ z => z.trans k₁) fun _ _ z => z) hs
theorem set_dictS {a : Addr} {es : List (Str × V)} {ep : Nat} {k : Str} {x : V} {QU : Store → Prop} (hl : σ a = some (.dictS es ep)) (hz : es.length ≤ 1000000) (h : ∀ ep', QU (upd σ a (.dictS (storedA es k x) ep'))) : OPU C n env ε (.obj a) (.str k) x σ QU X := fun A g s vo vi v hA D r r' r'' => by
  rw [show vo = _ from r]
  obtain ⟨u, rfl⟩ := r'
  obtain ⟨hsys, kvs, hd, hp⟩ := D.S.sim a _ hl
  refine wpAny_setItem_pairs (knd := PySem.strKind C.prog C.w) (k := k) (by simp [PySem.strKind, Value.isStrOf]) hd.dictOf (fun h' hd' hs' => ?_) (by rw [hp.length, sizeLine_eq]; omega)
  obtain ⟨ep', hda⟩ := hd'.dictAt
  obtain ⟨o, es', ho, _, hdd, _⟩ := id hd
  obtain ⟨D₃, k₃⟩ := D.set (h' := h') (x := .dictS (storedA es k x) ep') (s.toks + 1) hl hs' ho (NT.dict hdd) fun k => ⟨hsys, _, hda, (hp.stored r'').mono k⟩
  exact ⟨_, D₃, k₃, h ep'⟩
theorem set_dictI {a : Addr} {es : List (Int × V)} {ep : Nat} {k : Int} {x : V} {QU : Store → Prop} (hl : σ a = some (.dictI es ep)) (hz : es.length ≤ 1000000) (h : ∀ ep', QU (upd σ a (.dictI (storedA es k x) ep'))) : OPU C n env ε (.obj a) (.int k) x σ QU X := fun A g s vo vi v hA D r r' r'' => by
  rw [show vo = _ from r]
  obtain ⟨u, rfl⟩ := r'
  obtain ⟨hsys, kvs, hd, hp⟩ := D.S.sim a _ hl
  refine wpAny_setItem_pairs (knd := intKind C.prog C.w) (k := k) (by simp [intKind, Value.isInt]) hd.dictOf (fun h' hd' hs' => ?_) (by rw [hp.length, sizeLine_eq]; omega)
  obtain ⟨ep', hda⟩ := hd'.dictAt
  obtain ⟨o, es', ho, _, hdd, _⟩ := id hd
  obtain ⟨D₃, k₃⟩ := D.set (h' := h') (x := .dictI (storedA es k x) ep') (s.toks + 1) hl hs' ho (NT.dict hdd) fun k => ⟨hsys, _, hda, (hp.stored r'').mono k⟩
  exact ⟨_, D₃, k₃, h ep'⟩
def EP (C : Cx) (n : Nat) (env : Env) (ε : Loc) (e : Option Expr) (σ : Store) (Q : Option Int → Store → Prop) (X : AX → Store → Prop) : Prop := match e with
  | none => Q none σ
  | some e => EV C n env ε e σ (fun x σ₁ => ∃ i, x = .int i ∧ Q (some i) σ₁) X
def cut {α : Type} (l : List α) (lo hi : Option Int) : List α := (l.drop (lo.elim 0 (clipAt l.length))).take (hi.elim l.length (clipAt l.length) - lo.elim 0 (clipAt l.length))
theorem EP.use {e : Option Expr} {QP : Option Int → Store → Prop} (h : EP C n env ε e σ QP X) (a : AOk C n g (some env) A) (D : Hd C g env ε σ s) {Q' : Value → Shared → Prop} {E' : Value → Shared → Prop}
    (k : ∀ v i σ' s', Hd C g env ε σ' s' → TK s.heap s'.heap → IsPart v i → QP i σ' → Q' v s') (kx : ∀ e s', PostX C g env s X e s' → E' e s') : wpAny C.M A (evalPart e env) Q' E' s := by
  cases e with
  | none => exact wpAny_pure (k _ _ _ _ D (TK.refl _) .none h)
  | some e => exact TV.use h a D (fun v x σ' s' D' k' r ⟨i, e1, q⟩ => by subst e1; obtain ⟨t, rfl⟩ := r; exact k _ _ _ _ D' k' (.int i t) q) kx
def OPC (C : Cx) (n : Nat) (env : Env) (ε : Loc) (x : V) (lo hi : Option Int) (σ : Store) (Q : V → Store → Prop) (X : AX → Store → Prop) : Prop :=
  ∀ A g s v sl vl vu, AOk C n g (some env) A → Hd C g env ε σ s → RV s.heap x v → s.heap.IsSliceOf sl vl vu .none → IsPart vl lo → IsPart vu hi →
    ∃ T id, typeLookup (.type T) "__getitem__" = pure (some (.builtin id)) ∧ s.TypeIs v T ∧ wpAny C.M A (getItem v (.ref sl)) (Post C g env ε s Q) (PostX C g env s X) s
abbrev Qcu3 (C : Cx) (n : Nat) (env : Env) (ε : Loc) (x : V) (lo : Option Int) (Q : V → Store → Prop) (X : AX → Store → Prop) : Option Int → Store → Prop := fun hi σ₃ => OPC C n env ε x lo hi σ₃ Q X
abbrev Qcu2 (C : Cx) (n : Nat) (env : Env) (ε : Loc) (upper : Option Expr) (x : V) (Q : V → Store → Prop) (X : AX → Store → Prop) : Option Int → Store → Prop := fun lo σ₂ => EP C n env ε upper σ₂ (Qcu3 C n env ε x lo Q X) X
abbrev Qcu1 (C : Cx) (n : Nat) (env : Env) (ε : Loc) (lower upper : Option Expr) (Q : V → Store → Prop) (X : AX → Store → Prop) : V → Store → Prop := fun x σ₁ => EP C n env ε lower σ₁ (Qcu2 C n env ε upper x Q X) X
theorem EV_Cut {value : Expr} {lower upper : Option Expr} {p pos : Pos} (h : EV C n env ε value σ (Qcu1 C n env ε lower upper Q X) X)
    (hs : ∀ o i, subscripted (.Slice lower upper none p) false o i = operate [i, o] (getItem o i) := by intro _ _; with_unfolding_all rfl) : EV C n env ε (.Subscript value (.Slice lower upper none p) pos) σ Q X := fun A g s a D =>
  Subscript_ (h.use a D (fun v x σ₁ s₁ D₁ k₁ r₁ h₁ => wpAny_Slice (h₁.use a D₁ (fun vl lo σ₂ s₂ D₂ k₂ p₂ h₂ => h₂.use a D₂ (fun vu hi σ₃ s₃ D₃ k₃ p₃ h₃ => wpAny_pure (by
    have kk := k₂.trans (k₃.trans (TK.push s₃.heap { cls := .type "slice", data := .fields #[vl, vu, .none] }))
    obtain ⟨T, id, hl, hT, w⟩ := h₃ A g _ v _ vl vu a (D₃.push { cls := .type "slice", data := .fields #[vl, vu, .none] } s₃.toks) (RV.mono kk _ _ r₁) (Heap.IsSliceOf.new ..) p₂ p₃
    exact wpAny_mono (tail_any hT hl w (hs _ _)) (fun _ _ z => z.trans (k₁.trans kk)) fun _ _ z => z.trans (k₁.trans kk))) fun _ _ z => z.trans (k₁.trans k₂)) fun _ _ z => z.trans k₁)) fun _ _ z => z)
theorem cut_bytes {b : Array UInt8} {lo hi : Option Int} (hz : b.size ≤ 1000000) (h : Q (.bytes (cut b.toList lo hi).toArray) σ) : OPC C n env ε (.bytes b) lo hi σ Q X := fun A g s v sl vl vu a D r hsl pl pu => by
  obtain ⟨t, rfl⟩ := r
  refine ⟨"bytes", _, FB.slot_bytes_getitem.lookup, typeIs_bytes _ _ _, getItem_meets (typeIs_bytes _ _ _) (by decide) FB.slot_bytes_getitem FB.entry_bytes_getitem (FB.args_bytes_getitem_2 _ _) (KBc.meets_slice2 b t _ pl pu)
    ⟨hsl, Nat.le_trans (KBc.size_picked_le b lo hi) (by rw [sizeLine_eq]; omega), fun t' k => ?_⟩⟩
  have e : KBy.picked b lo hi = (cut b.toList lo hi).toArray := by rw [KBc.picked_eq]; simp [cut]
  rw [e]
  exact ppt D _ rv_bytes h
end
end Mine
end
section
open PySem PySem.W PyProof.Rows PySem.Calls PySem.Spec
set_option Elab.async false
set_option maxRecDepth 100000
set_option linter.unusedVariables false
set_option linter.unusedSectionVars false
namespace Mine
theorem strLt_iff (a b : Str) : strLt a b = true ↔ a.cps.toList < b.cps.toList := by simp [strLt]
def sle (a b : Str) : Bool := !strLt b a
theorem sle_iff (a b : Str) : sle a b = true ↔ a.cps.toList ≤ b.cps.toList := by
  unfold sle; rw [Bool.not_eq_true', ← Bool.not_eq_true, strLt_iff]; exact List.not_lt
theorem sle_trans (a b c : Str) : sle a b = true → sle b c = true → sle a c = true := by
  rw [sle_iff, sle_iff, sle_iff]; exact List.le_trans
theorem sle_anti (a b : Str) : sle a b = true → sle b a = true → a = b := by
  rw [sle_iff, sle_iff]; intro h1 h2
  have := List.le_antisymm h1 h2
  cases a; cases b; simp at this; rw [this]
theorem sle_total (a b : Str) : (sle a b || sle b a) = true := by
  rw [Bool.or_eq_true, sle_iff, sle_iff]; exact List.le_total _ _
def sortS (l : List Str) : List Str := l.mergeSort sle
def ile (a b : Int) : Bool := decide (a ≤ b)
def sortI (l : List Int) : List Int := l.mergeSort ile
theorem sortS_perm (l : List Str) : (sortS l).Perm l := List.mergeSort_perm l _
theorem sortI_perm (l : List Int) : (sortI l).Perm l := List.mergeSort_perm l _
theorem sortS_pw (l : List Str) : (sortS l).Pairwise fun a b => sle a b = true := List.pairwise_mergeSort sle_trans sle_total l
theorem sortI_pw (l : List Int) : (sortI l).Pairwise fun a b => a ≤ b := by
  have := List.pairwise_mergeSort (le := ile) (fun a b c h1 h2 => by simp [ile] at *; omega) (fun a b => by simp [ile]; omega) l
  exact this.imp fun h => by simpa [ile] using h
theorem sortS_of {l m : List Str} (p : m.Perm l) (o : m.Pairwise fun a b => sle a b = true) : m = sortS l :=
  List.Perm.eq_of_pairwise (le := fun a b => sle a b = true) (fun a b _ _ => sle_anti a b) o (sortS_pw l) (p.trans (sortS_perm l).symm)
theorem sortI_of {l m : List Int} (p : m.Perm l) (o : m.Pairwise fun a b => a ≤ b) : m = sortI l :=
  List.Perm.eq_of_pairwise (le := fun a b : Int => a ≤ b) (fun a b _ _ h1 h2 => Int.le_antisymm h1 h2) o (sortI_pw l) (p.trans (sortI_perm l).symm)
theorem rising_pw : ∀ (p : Str) (l : List Str), risingS p l = true → (p :: l).Pairwise fun a b => sle a b = true
  | p, [], _ => List.pairwise_cons.mpr ⟨fun _ h => by simp at h, .nil⟩
  | p, x :: r, h => by
    unfold risingS at h
    rw [Bool.and_eq_true, ltCps_eq] at h
    have ih := rising_pw x r h.2
    have h1 : sle p x = true := h.1
    refine List.pairwise_cons.mpr ⟨fun y hy => ?_, ih⟩
    rcases List.mem_cons.mp hy with rfl | hy
    · exact h1
    · exact sle_trans _ _ _ h1 ((List.pairwise_cons.mp ih).1 y hy)
theorem sortedS_pw : ∀ (l : List Str), sortedS l = true → l.Pairwise fun a b => sle a b = true
  | [], _ => .nil
  | x :: r, h => rising_pw x r h
section
variable {prog : Program} {w : World} {A : Around} {E : Value → Shared → Prop} {s : Shared}
theorem sorted_ints_of {r : Value} {Q : Value → Shared → Prop} (hc : wpAny (model prog w) A.in1 (collect r) (fun vs s₁ => ∃ ns, IntsAre vs ns ∧ vs.length < 64 ∧
      ∀ (out : Array Value) (ns' : List Int), IntsAre out.toList ns' → ns'.Perm ns → ns'.Pairwise (· ≤ ·) → Q (.ref s₁.heap.objs.size) { s₁ with heap := sortedHeap (s₁.heap.push (seqObj "list" vs.toArray 0)) s₁.heap.objs.size vs out }) E s) :
    wpAny (model prog w) A (call (.builtin "sorted") [r]) Q E s := by
  refine Calls.call_function_entry kind_sorted plain_sorted entry_sorted (args_sorted1 _) ?_
  unfold Builtin.«sorted»
  refine wpAny_bind (m := checkCount "sorted" 1 1 _) (wpAny_pure ?_)
  refine wpAny_bind (wpAny_mono hc (fun vs s₁ ⟨ns, hI, h64, h⟩ => ?_) fun _ _ z => z)
  refine wpAny_bind (wpAny_newList ?_)
  have hoL : (s₁.heap.push (seqObj "list" vs.toArray 0)).get? s₁.heap.objs.size = some (seqObj "list" vs.toArray 0) := Heap.get?_push_size _ rfl
  refine wpAny_bind (wpAny_holding (wpAny_call_entry slot_list_sort ⟨_, hoL, rfl⟩ entry_list_sort (list_sort_tree hoL hI h64 fun out ns' a1 a2 a3 => ⟨_, rfl, ?_⟩) (args_list_sort _)))
  exact wpAny_pure ⟨_, rfl, h out ns' a1 a2 a3⟩
theorem sorted_strs_of {r : Value} {Q : Value → Shared → Prop} (hc : wpAny (model prog w) A.in1 (collect r) (fun vs s₁ => ∃ ss, StrsAre vs ss ∧ vs.length < 64 ∧
      ∀ (out : Array Value) (ss' : List Str), StrsAre out.toList ss' → ss'.Perm ss → sortedS ss' = true → Q (.ref s₁.heap.objs.size) { s₁ with heap := sortedHeap (s₁.heap.push (seqObj "list" vs.toArray 0)) s₁.heap.objs.size vs out }) E s) :
    wpAny (model prog w) A (call (.builtin "sorted") [r]) Q E s := by
  refine Calls.call_function_entry kind_sorted plain_sorted entry_sorted (args_sorted1 _) ?_
  unfold Builtin.«sorted»
  refine wpAny_bind (m := checkCount "sorted" 1 1 _) (wpAny_pure ?_)
  refine wpAny_bind (wpAny_mono hc (fun vs s₁ ⟨ss, hS, h64, h⟩ => ?_) fun _ _ z => z)
  refine wpAny_bind (wpAny_newList ?_)
  have hoL : (s₁.heap.push (seqObj "list" vs.toArray 0)).get? s₁.heap.objs.size = some (seqObj "list" vs.toArray 0) := Heap.get?_push_size _ rfl
  refine wpAny_bind (wpAny_holding (wpAny_call_entry slot_list_sort ⟨_, hoL, rfl⟩ entry_list_sort (list_sort_treeK strKind_oneLt hoL hS.keysOf (fun v₁ v₂ rest e => keyKind_strs (by rw [← e]; exact hS)) h64 fun st' hp hs => ⟨_, rfl, ?_⟩) (args_list_sort _)))
  obtain ⟨ss', h1, h2, h3⟩ := sorted_out_str hS hp hs
  exact wpAny_pure ⟨_, rfl, h _ ss' h1 h2 h3⟩
theorem collect_src {T : String} {r d : Addr} {n : Nat} {P : Nat → Value → Prop} {OK : Heap → Prop} {Q : List Value → Shared → Prop} (K : KdlSrc prog w T r d n P OK) (hh : A.handled = none) (hok : OK s.heap) (hn : n ≤ sizeLine)
    (hQ : ∀ h' tk (vs : List Value), (∀ b o, s.heap.get? b = some o → h'.get? b = some o) → s.heap.objs.size ≤ h'.objs.size → vs.length = n → (∀ j v, vs[j]? = some v → P j v) → Q vs { s with heap := h', toks := tk }) :
    wpAny (model prog w) A (collect (.ref r)) Q E s := by
  have hlt := K.there _ hok
  have key : ∀ R : Result → Shared → Prop, (∀ h' tk acc' c', (∀ b o, b ≠ s.heap.objs.size → (s.heap.push { cls := .type "list", data := .seq ([] : List Value).toArray }).get? b = some o → h'.get? b = some o) →
      h'.get? s.heap.objs.size = some { cls := .type "list", dict := none, data := .seq acc' c', slots := #[] } → ItemsOf P acc' n → R (.ok (.ret (.ref s.heap.objs.size))) { s with heap := h', toks := tk }) →
      codeAny (model prog w) A (.builtin "proto.collect" ⟨[.ref r], []⟩) R s := fun R hR => by
    refine codeAny_builtin PySem.F.entry_proto_collect ?_
    rw [Around.under_plainId PySem.F.plain_proto_collect _]
    show wpAny _ A.in1 (newList [] >>= fun l => again (.builtin "list.__iadd__" ⟨[l, .ref r], []⟩)) _ _ s
    refine wpAny_bind (wpAny_newObj_type ?_)
    refine wpAny_pure ⟨plainId_quiet PySem.F.plain_list_iadd _, codeAny_builtin PySem.F.entry_list_iadd ?_⟩
    rw [Around.under_plainId PySem.F.plain_list_iadd _]
    show wpAny _ A.in1 (Builtin.List.listExtendWith (.ref s.heap.objs.size) (.ref r) (.ref s.heap.objs.size)) _ _ _
    have hS : (s.heap.push { cls := .type "list", data := .seq ([] : List Value).toArray }).get? s.heap.objs.size = some { cls := .type "list", data := .seq #[] 0 } := Heap.get?_push_size _ rfl
    exact kdl_extend (s := { s with heap := s.heap.push { cls := .type "list", data := .seq ([] : List Value).toArray } }) K hh (K.keep _ _ hok fun b _ o e => Heap.get?_push_of_some _ e) s.heap.objs.size (Nat.ne_of_gt hlt.1) (Nat.ne_of_gt hlt.2) _ 0 hS (fun h' tk acc' c' hk hS' hacc => hR h' tk acc' c' hk hS' hacc) hn
  unfold collect
  refine wpAny_bind (wpAny_runValue (key _ fun h' tk acc' c' hk hS' hacc => ?_))
  show wpAny _ A (load s.heap.objs.size >>= _) _ _ _
  refine wpAny_bind (wpAny_load hS' ?_)
  exact wpAny_pure (hQ h' tk acc'.toList (fun b o e => hk b o (Nat.ne_of_lt (Heap.lt_size e)) (Heap.get?_push_of_some _ e)) (Nat.le_of_lt (Heap.lt_size hS')) (by rw [Array.length_toList]; exact hacc.1) fun j v e => hacc.2 j v (by rw [← Array.getElem?_toList]; exact e))
end
theorem rvs_ints {h : Heap} : ∀ {vs : List Value} {ns : List Int}, IntsAre vs ns → RVs h (ns.map .int) vs
  | _, _, .nil => rfl
  | _, _, .cons x t r => ⟨_, _, rfl, rv_int, rvs_ints r⟩
theorem rvs_strs {h : Heap} : ∀ {vs : List Value} {ns : List Str}, StrsAre vs ns → RVs h (ns.map .str) vs
  | _, _, .nil => rfl
  | _, _, .cons x t r => ⟨_, _, rfl, rv_str, rvs_strs r⟩
theorem ints_of_rvs {h : Heap} : ∀ {vs : List Value} {ns : List Int}, RVs h (ns.map .int) vs → IntsAre vs ns
  | _, [], r => by rw [show _ = [] from r]; exact .nil
  | _, x :: ns, r => by obtain ⟨v, q, rfl, ⟨t, rfl⟩, r2⟩ := r; exact .cons x t (ints_of_rvs r2)
theorem strs_keys {prog : Program} {w : World} : ∀ {kvs : List (Str × Value)} {vs : List Value}, vs.length = kvs.length → (∀ (j : Nat) (v : Value), vs[j]? = some v → ∃ k x, kvs[j]? = some (k, x) ∧ (PySem.strKind prog w).is k v = true) → StrsAre vs (kvs.map (·.1))
  | [], [], _, _ => .nil
  | [], _ :: _, h, _ => by simp at h
  | _ :: _, [], h, _ => by simp at h
  | (a, b) :: kvs, v :: vs, h, hh => by
    obtain ⟨k, x, e1, e2⟩ := hh 0 v rfl
    simp at e1; obtain ⟨rfl, rfl⟩ := e1
    obtain ⟨t, rfl⟩ := Value.isStrOf_shape e2
    exact .cons _ t (strs_keys (by simpa using h) fun j v e => hh (j + 1) v (by simpa using e))
theorem ints_keys {prog : Program} {w : World} : ∀ {kvs : List (Int × Value)} {vs : List Value}, vs.length = kvs.length → (∀ (j : Nat) (v : Value), vs[j]? = some v → ∃ k x, kvs[j]? = some (k, x) ∧ (intKind prog w).is k v = true) → IntsAre vs (kvs.map (·.1))
  | [], [], _, _ => .nil
  | [], _ :: _, h, _ => by simp at h
  | _ :: _, [], h, _ => by simp at h
  | (a, b) :: kvs, v :: vs, h, hh => by
    obtain ⟨k, x, e1, e2⟩ := hh 0 v rfl
    simp at e1; obtain ⟨rfl, rfl⟩ := e1
    obtain ⟨t, rfl⟩ := Value.isInt_shape e2
    exact .cons _ t (ints_keys (by simpa using h) fun j v e => hh (j + 1) v (by simpa using e))
theorem RPairs.keys {α : Type} {h : Heap} : ∀ {es : List (α × V)} {kvs : List (α × Value)}, RPairs h es kvs → kvs.map (·.1) = es.map (·.1)
  | [], _, r => by rw [show _ = [] from r]; rfl
  | (a, x) :: es, _, r => by obtain ⟨v, q, rfl, _, r2⟩ := r; simp [r2.keys]
section
variable {C : Cx} {g : Gh} {σ σ' : Store} {s s' : Shared} {env : Env} {ε : Loc} {n : Nat} {A : Around} {Q : V → Store → Prop} {X : AX → Store → Prop} {QB : Bool → Store → Prop} {QS : Fl → Loc → Store → Prop} {QA : Loc → Store → Prop} {QL : List V → Store → Prop}
theorem Hd.grown (D : Hd C g env ε σ s) {h' : Heap} (tk : Nat) (k : ∀ b o, s.heap.get? b = some o → h'.get? b = some o) : Hd C g env ε σ { s with heap := h', toks := tk } :=
  ⟨D.S.grow tk k, D.F.keeps (h' := h') (fun _ e => k _ _ e) (TK.of_keeps k) rfl D.F.σL⟩
theorem Hd.sorted (D : Hd C g env ε σ s) {h' : Heap} {tk : Nat} {vs : List Value} {out : Array Value} {xs : List V} (k : ∀ b o, s.heap.get? b = some o → h'.get? b = some o) (hx : ∀ h, RVs h xs out.toList) (hz : s.heap.objs.size ≤ h'.objs.size) :
    σ h'.objs.size = none ∧ Hd C g env ε (upd σ h'.objs.size (.list xs)) { s with heap := sortedHeap (h'.push (seqObj "list" vs.toArray 0)) h'.objs.size vs out, toks := tk } ∧ TK s.heap (sortedHeap (h'.push (seqObj "list" vs.toArray 0)) h'.objs.size vs out) := by
  have k2 : ∀ b o, s.heap.get? b = some o → (sortedHeap (h'.push (seqObj "list" vs.toArray 0)) h'.objs.size vs out).get? b = some o := fun b o e => by
    have hb := Heap.lt_size (k b o e)
    rw [sortedHeap_old (Nat.ne_of_lt hb) (by rw [size_push']; exact Nat.lt_succ_of_lt hb)]
    exact Heap.get?_push_of_some _ (k b o e)
  obtain ⟨f1, f2, f3, f4⟩ := D.fresh (a := h'.objs.size) hz
  obtain ⟨e, he⟩ := sortedHeap_at (h := h'.push (seqObj "list" vs.toArray 0)) (a := h'.objs.size) (vs := vs) (n := 0) (out := out) (Heap.get?_push_size _ rfl)
  refine ⟨f1, (D.grown tk k2).add (o := .list xs) f2 f3 f4 ⟨out.toList, ⟨e, by rw [he]; simp [listOb, seqObj]⟩, hx _⟩, TK.of_keeps k2⟩
theorem sorted_dictS {d : Addr} {es : List (Str × V)} {ep : Nat} (hd : σ d = some (.dictS es ep)) (hz : es.length < 64) (h : ∀ r, σ r = none → Q (.obj r) (upd σ r (.list ((sortS (es.map (·.1))).map .str)))) : OPL C (n + 1) env ε (fun vs => call (.builtin "sorted") vs) [.obj d] σ Q X := fun A g s vs hA D r => by
  obtain ⟨v, r', rfl, rfl, q⟩ := r
  rw [show r' = [] from q]
  obtain ⟨hsys, kvs, hda, hp⟩ := D.S.sim d _ hd
  refine sorted_strs_of (collect_src (kdl_dict (kvs := kvs) (ep := ep) hsys) (by simpa using hA.hn) hda (by rw [hp.length, sizeLine_eq]; omega) fun h' tk vs k hsz hl hv => ?_)
  have hS := strs_keys hl hv
  refine ⟨_, hS, by rw [hl, hp.length]; exact hz, fun out ss' a1 a2 a3 => ?_⟩
  rw [hp.keys] at a2
  have e := sortS_of a2 (sortedS_pw _ a3)
  subst e
  obtain ⟨f1, D', k'⟩ := D.sorted (vs := vs) (tk := tk) k (fun h => rvs_strs a1) hsz
  exact ⟨.obj _, _, D', k', rv_obj, h _ f1⟩
theorem sorted_dictI {d : Addr} {es : List (Int × V)} {ep : Nat} (hd : σ d = some (.dictI es ep)) (hz : es.length < 64) (h : ∀ r, σ r = none → Q (.obj r) (upd σ r (.list ((sortI (es.map (·.1))).map .int)))) : OPL C (n + 1) env ε (fun vs => call (.builtin "sorted") vs) [.obj d] σ Q X := fun A g s vs hA D r => by
  obtain ⟨v, r', rfl, rfl, q⟩ := r
  rw [show r' = [] from q]
  obtain ⟨hsys, kvs, hda, hp⟩ := D.S.sim d _ hd
  refine sorted_ints_of (collect_src (kdl_dict (kvs := kvs) (ep := ep) hsys) (by simpa using hA.hn) hda (by rw [hp.length, sizeLine_eq]; omega) fun h' tk vs k hsz hl hv => ?_)
  have hS := ints_keys hl hv
  refine ⟨_, hS, by rw [hl, hp.length]; exact hz, fun out ss' a1 a2 a3 => ?_⟩
  rw [hp.keys] at a2
  have e := sortI_of a2 a3
  subst e
  obtain ⟨f1, D', k'⟩ := D.sorted (vs := vs) (tk := tk) k (fun h => rvs_ints a1) hsz
  exact ⟨.obj _, _, D', k', rv_obj, h _ f1⟩
end
end Mine
end
section
open PySem PySem.W PyProof.Rows PySem.Calls PySem.Spec
set_option Elab.async false
set_option maxRecDepth 100000
set_option linter.unusedVariables false
set_option linter.unusedSectionVars false
namespace Mine
section
open PySem.Builtin PySem.Builtin.Str PySem.Builtin._codecs
theorem loop2 {σ : Type} (f : Nat → σ → Sem (ForInStep σ)) (a b : σ) (h1 : ∀ k, f k a = pure (.yield b)) (h2 : ∀ k, f k b = pure (.done b)) : ∀ l : List Nat, l ≠ [] → forIn l a f = pure b
  | [], h => absurd rfl h
  | [x], _ => by rw [List.forIn_cons, h1]; simp
  | x :: y :: l, _ => by rw [List.forIn_cons, h1, pure_bind]; dsimp only; rw [List.forIn_cons, h2]; simp
theorem ascii_ok (x : Array Nat) (h : ∀ c ∈ x, c < 128) : x.findIdx? asciiCodec.bad = none := by
  rw [Array.findIdx?_eq_none_iff]
  intro c hc
  have := h c hc
  simp [asciiCodec]; omega
theorem fold_bytes (l : List Nat) : ∀ acc : Array UInt8, l.foldl (fun acc y => acc ++ (asciiCodec.bytesOf y).toArray) acc = acc ++ (l.map fun c => c.toUInt8).toArray := by
  induction l with
  | nil => intro acc; simp
  | cons x l ih => intro acc; rw [List.foldl_cons, ih]; simp [asciiCodec]
theorem encodeNarrow_ascii (id : String) (self : Value) (x : PySem.Str) (h : ∀ c ∈ x.cps, c < 128) (hz : x.cps.size ≤ sizeLine) : encodeNarrow id asciiCodec none self x = pure (x.cps.map fun c => c.toUInt8) := by
  unfold encodeNarrow
  simp only [Std.Legacy.Range.forIn_eq_forIn_range', Std.Legacy.Range.size]
  by_cases h0 : x.cps.size = 0
  · have e : x.cps = #[] := by simpa using h0
    have e2 : x.length = 0 := h0
    rw [e2, e, show (0 - 0 + 1 - 1) / 1 = 0 from rfl, show List.range' 0 0 = [] from rfl, List.forIn_nil]
    simp
  · rw [loop2 (σ := Nat × Array UInt8 × Faults) _ (0, #[], {}) (x.cps.size, x.cps.map (fun c => c.toUInt8), {}) ?h1 ?h2 _ ?h3]
    · simp
    case h1 =>
      intro k
      rw [if_neg (by simp)]
      have hx : x.cps[0]? = some x.cps[0] := by rw [getElem?_pos]
      rw [hx]
      dsimp only
      have hb : asciiCodec.bad x.cps[0] = false := by
        have := h x.cps[0] (by simp)
        simp [asciiCodec]; omega
      rw [hb]
      have e0 : x.cps.extract 0 = x.cps := by simp
      simp only [Bool.not_false, if_true]
      rw [show x.cps.extract 0 x.cps.size = x.cps from by simp, ascii_ok _ h]
      simp only [Option.getD_none, Nat.zero_add]
      rw [show x.cps.extract 0 x.cps.size = x.cps from by simp, ← Array.foldl_toList, fold_bytes]
      have em : (#[] ++ (x.cps.toList.map fun c => c.toUInt8).toArray : Array UInt8) = x.cps.map fun c => c.toUInt8 := by apply Array.ext'; simp
      rw [em]
    case h2 =>
      intro k
      rw [if_neg (by rw [Array.size_map]; omega)]
      rw [getElem?_neg _ _ (by simp)]
    case h3 =>
      have : x.length = x.cps.size := rfl
      rw [this]
      intro q
      have := congrArg List.length q
      simp at this
      exact h0 (by simp [this])
theorem decode_loop (b : Array UInt8) (h : ∀ c ∈ b, c.toNat < 128) (hz : b.size ≤ sizeLine) (f : Nat → (Nat × Array Nat × Faults) → Sem (ForInStep (Nat × Array Nat × Faults))) (st : Faults)
    (hf : ∀ k p out, out.size ≤ sizeLine → p < b.size → f k (p, out, st) = pure (.yield (p + 1, out ++ [(b.getD p 0).toNat].toArray, st))) :
    ∀ (n p : Nat) (out : Array Nat) (l : List Nat), l.length = n → p + n = b.size → out.size = p → forIn l (p, out, st) f = pure (b.size, out ++ ((b.toList.drop p).map (·.toNat)).toArray, st)
  | 0, p, out, l, hl, hp, ho => by
    have : l = [] := List.length_eq_zero_iff.mp hl
    subst this
    have e : p = b.size := by omega
    subst e
    rw [List.forIn_nil, List.drop_eq_nil_of_le (by simp)]; simp
  | n + 1, p, out, l, hl, hp, ho => by
    cases l with
    | nil => simp at hl
    | cons x l =>
      rw [List.forIn_cons, hf x p out (by omega) (by omega), pure_bind]
      dsimp only
      rw [decode_loop b h hz f st hf n (p + 1) _ l (by simpa using hl) (by omega) (by simp; omega)]
      have e : b.toList.drop p = b.getD p 0 :: b.toList.drop (p + 1) := by
        have hp' : p < b.toList.length := by simp; omega
        rw [List.drop_eq_getElem_cons hp']
        congr 1
        simp [Array.getD]; intro q; omega
      rw [e]; simp
theorem runDecoder_ascii (id : String) (b : Array UInt8) (h : ∀ c ∈ b, c.toNat < 128) (hz : b.size ≤ sizeLine) : runDecoder id asciiDecoder none true b 0 [] = pure ((b.toList.map (·.toNat)).toArray, b.size) := by
  unfold runDecoder
  simp only [Std.Legacy.Range.forIn_eq_forIn_range', Std.Legacy.Range.size]
  rw [decode_loop b h hz _ { held := [] } (fun k p out ho hp => ?_) b.size 0 #[] _ (by simp) (by simp) rfl]
  · simp
  · dsimp only
    rw [if_neg (by omega), if_neg (by omega)]
    have hb : (b.getD p 0).toNat < 128 := by
      have : b.getD p 0 = b[p] := by simp [Array.getD, hp]
      rw [this]; exact h _ (by simp)
    simp only [asciiDecoder, if_pos hb, Found.char]
theorem decode_entry (c : UInt8) (cs : List UInt8) (t u : Tok) : «bytes.decode» ⟨[.bytes (c :: cs).toArray t, .str "ascii" u], []⟩ = (mkStr (PySem.Str.ofString "utf-8") >>= fun _ => mkStr (PySem.Str.ofString "ascii") >>= fun e => mkStr (PySem.Str.ofString "bytes.decode") >>= fun d =>
    call (.builtin "_codecs.decode.text") [.bytes (c :: cs).toArray t, e, .none, d] >>= fun v => ret v) := by kernel_rfl
theorem decode_empty (t u : Tok) : «bytes.decode» ⟨[.bytes #[] t, .str "ascii" u], []⟩ = (rule "bytes.decode.empty" >>= fun _ => retStr Str.empty) := by kernel_rfl
theorem road_ascii {id : String} {b : Array UInt8} : _codecs.decodeRoad id b (PySem.Str.ofString "ascii") none [] = (_codecs.runDecoder id _codecs.asciiDecoder none true b 0 [] >>= fun r => mkStr ⟨r.1⟩) := by kernel_rfl
theorem encode_tree2 (x : PySem.Str) (t u : Tok) : «str.encode» ⟨[.str x t, .str "ascii" u], []⟩ = (do ret (← encodeRoad "str.encode" (.str x t) x "ascii" none)) := by first | rfl | kernel_rfl
theorem encodeRoad_ascii (id : String) (self : Value) (x : PySem.Str) : encodeRoad id self x "ascii" none = (do mkBytes (← encodeNarrow id asciiCodec none self x)) := by
  first | rfl | kernel_rfl
theorem meets_encode {x : PySem.Str} {t u : Tok} (h0 : ∀ c ∈ x.cps, c < 128) (hz : x.cps.size ≤ sizeLine) :
    Meets («str.encode» ⟨[.str x t, .str "ascii" u], []⟩) (fun _ R s => ∀ t' k, R (.ok (.ret (.bytes (x.cps.map fun c => c.toUInt8) t'))) { s with toks := k }) := by
  refine .of_wp fun prog w A R s h => ?_
  rw [encode_tree2, encodeRoad_ascii, encodeNarrow_ascii _ _ _ h0 hz]
  refine wpAny_bind (wpAny_bind (wpAny_pure (wpAny_mkBytes (wpAny_pure ⟨_, rfl, h _ _⟩) (by rw [Array.size_map]; exact hz))))
theorem meets_text2 {b : Array UInt8} {x : PySem.Str} {n : Nat} {t t1 t2 : Tok} {d : PySem.Str} (hd : ∀ id, runDecoder id asciiDecoder none true b 0 [] = pure (x.cps, n)) :
    Meets («_codecs.decode.text» ⟨[.bytes b t, .str (PySem.Str.ofString "ascii") t1, .none, .str d t2], []⟩) (fun _ R s => x.length ≤ sizeLine ∧ R (.ok (.ret (.str x s.toks))) { s with toks := s.toks + 1 }) := by
  refine .of_wp fun prog w A R s hS => ?_
  obtain ⟨hsz, h⟩ := hS
  show wpAny _ _ (Bytes.bytesLike _ (.bytes b t) >>= fun r => _) _ _ s
  refine wpAny_bind (wpAny_of_eq KBd.like_eq ?_)
  refine wpAny_bind (wpAny_of_eq KBd.held_eq ?_)
  show wpAny _ _ (decodeRoad _ b (PySem.Str.ofString "ascii") none [] >>= fun v => _) _ _ s
  rw [road_ascii, hd]
  refine wpAny_bind (wpAny_bind (wpAny_pure ?_))
  exact wpAny_mkStr (wpAny_pure ⟨_, rfl, h⟩) hsz
theorem meets_decode2 {b : Array UInt8} {t u : Tok} (h0 : ∀ c ∈ b, c.toNat < 128) (hz : b.size ≤ 1000000) :
    Meets («bytes.decode» ⟨[.bytes b t, .str "ascii" u], []⟩) (fun _ R s => ∀ t' k, R (.ok (.ret (.str ⟨(b.toList.map (·.toNat)).toArray⟩ t'))) { s with toks := k }) := by
  refine .of_wp fun prog w A R s h => ?_
  obtain ⟨l⟩ := b
  cases l with
  | nil =>
    rw [decode_empty]
    exact wpAny_bind (wpAny_rule (wpAny_bind (wpAny_mkStr (wpAny_pure ⟨_, rfl, h _ _⟩) (by decide))))
  | cons c cs =>
    rw [decode_entry]
    refine wpAny_bind (wpAny_mkStr ?_ (by decide))
    refine wpAny_bind (wpAny_mkStr ?_ (by decide))
    refine wpAny_bind (wpAny_mkStr ?_ (by decide))
    refine wpAny_bind (call_function_meets KBd.kind_text KBd.plain_text KBd.entry_text (KBd.args_text _ _ _ _) (meets_text2 (x := ⟨((c :: cs).map (·.toNat)).toArray⟩) (n := (c :: cs).length) fun id => ?_) ⟨?_, wpAny_pure ⟨_, rfl, h _ _⟩⟩)
    · exact runDecoder_ascii id (c :: cs).toArray h0 (by rw [sizeLine_eq]; exact Nat.le_trans hz (by decide))
    · show ((c :: cs).map (·.toNat)).toArray.size ≤ sizeLine
      rw [sizeLine_eq]; simp at hz ⊢; omega
theorem args_decode_2 (a b : Value) : argsOk "bytes.decode" ⟨[a, b], []⟩ := by
  unfold argsOk; rw [signature?_of (id := "bytes.decode") (n := ['e', 'd', 'o', 'c', 'e', 'd']) (o := ['s', 'e', 't', 'y', 'b']) (by kernel_rfl) FB.owner_bytes]; kernel_rfl
theorem slot_find : Slot "bytes" "find" "bytes.find" :=
  .of (owner := "bytes") (n := "find") (by rw [typeLookup_type, builtinLookup_eq_fast]; kernel_rfl) (by decide +kernel) (by decide +kernel) (by decide +kernel)
    (by first | exact .inl (by decide +kernel) | exact .inr (by decide +kernel)) (by rw [isSubtype_type]; kernel_rfl)
theorem type_find : typeOf (.builtin "bytes.find") = pure (.type "method_descriptor") := by show builtinType _ = _; rw [builtinType_eq_fast]; kernel_rfl
theorem entry_find : entryFor table "bytes.find" = some Builtin.«bytes.find» := entryFor_of_tree (by kernel_rfl)
theorem args_find (a b : Value) : argsOk "bytes.find" ⟨[a, b], []⟩ := by
  unfold argsOk; rw [signature?_of (id := "bytes.find") (n := ['d', 'n', 'i', 'f']) (o := ['s', 'e', 't', 'y', 'b']) (by kernel_rfl) FB.owner_bytes]; kernel_rfl
theorem search_eq (b c : Array UInt8) (t u : Tok) : Bytes.searchArgs .bytes "find" ⟨[.bytes b t, .bytes c u], []⟩ = pure (b, c, if ((Bytes.window b.size none none).2 - (Bytes.window b.size none none).1 < (c.size : Int)) then none else some ((Bytes.window b.size none none).1.toNat, (Bytes.window b.size none none).2.toNat)) := by
  unfold Bytes.searchArgs
  dsimp only
  generalize (toString Bytes.Kind.bytes.name ++ toString "." ++ toString "find") = nm
  rw [show PySem.selfAndSome nm "find" 1 3 ⟨[.bytes b t, .bytes c u], []⟩ = pure (.bytes b t, [.bytes c u]) from by first | rfl | kernel_rfl]
  rw [pure_bind]
  dsimp only
  rw [show Bytes.bound? ([Value.bytes c u][1]?) = pure none from rfl, pure_bind, show Bytes.bound? ([Value.bytes c u][2]?) = pure none from rfl, pure_bind]
  rw [show [Value.bytes c u].headD Value.none = .bytes c u from rfl, KBy.buffer_eq, pure_bind]
  dsimp only
  rw [pure_bind, show Bytes.payload (.bytes b t) = pure b from rfl, pure_bind]
theorem find_find (c : UInt8) : (if ((Bytes.window (#[83, 82, 73] : Array UInt8).size none none).2 - (Bytes.window (#[83, 82, 73] : Array UInt8).size none none).1 < ((#[c] : Array UInt8).size : Int)) then none else some ((Bytes.window (#[83, 82, 73] : Array UInt8).size none none).1.toNat, (Bytes.window (#[83, 82, 73] : Array UInt8).size none none).2.toNat)).bind (fun (p : Nat × Nat) => Bytes.find? #[83, 82, 73] #[c] p.1 p.2) =
    if c = 83 then some 0 else if c = 82 then some 1 else if c = 73 then some 2 else none := by
  have h : ∀ n : Fin 256, (if ((Bytes.window (#[83, 82, 73] : Array UInt8).size none none).2 - (Bytes.window (#[83, 82, 73] : Array UInt8).size none none).1 < ((#[UInt8.ofNat n.val] : Array UInt8).size : Int)) then none else some ((Bytes.window (#[83, 82, 73] : Array UInt8).size none none).1.toNat, (Bytes.window (#[83, 82, 73] : Array UInt8).size none none).2.toNat)).bind (fun (p : Nat × Nat) => Bytes.find? #[83, 82, 73] #[UInt8.ofNat n.val] p.1 p.2) =
    if UInt8.ofNat n.val = 83 then some 0 else if UInt8.ofNat n.val = 82 then some 1 else if UInt8.ofNat n.val = 73 then some 2 else none := by decide +kernel
  have := h ⟨c.toNat, c.toNat_lt⟩
  simpa using this
def kindAt (c : UInt8) : Int := if c = 83 then 0 else if c = 82 then 1 else if c = 73 then 2 else -1
theorem meets_find (c : UInt8) (t u : Tok) : Meets («bytes.find» ⟨[.bytes #[83, 82, 73] t, .bytes #[c] u], []⟩) (fun _ R s => ∀ t' k, R (.ok (.ret (.int (kindAt c) t'))) { s with toks := k }) := by
  refine .of_wp fun prog w A R s h => ?_
  show wpAny _ _ (Bytes.searchM .bytes "find" false false ⟨[.bytes #[83, 82, 73] t, .bytes #[c] u], []⟩) _ _ s
  unfold Bytes.searchM
  rw [search_eq]
  refine wpAny_bind (wpAny_pure ?_)
  dsimp only [Bool.false_eq_true, if_false]
  simp only [Bool.false_eq_true, if_false]
  have e := find_find c
  rw [e]
  unfold kindAt at h
  split
  · rename_i i hi
    refine wpAny_bind (wpAny_mkInt (wpAny_pure ⟨_, rfl, ?_⟩))
    by_cases h1 : c = 83
    · rw [if_pos h1] at hi; cases hi; rw [if_pos h1] at h; exact h _ _
    · rw [if_neg h1] at hi h
      by_cases h2 : c = 82
      · rw [if_pos h2] at hi; cases hi; rw [if_pos h2] at h; exact h _ _
      · rw [if_neg h2] at hi h
        by_cases h3 : c = 73
        · rw [if_pos h3] at hi; cases hi; rw [if_pos h3] at h; exact h _ _
        · rw [if_neg h3] at hi; cases hi
  · rename_i hi
    have h1 : ¬ c = 83 := fun q => by rw [if_pos q] at hi; cases hi
    rw [if_neg h1] at hi h
    have h2 : ¬ c = 82 := fun q => by rw [if_pos q] at hi; cases hi
    rw [if_neg h2] at hi h
    have h3 : ¬ c = 73 := fun q => by rw [if_pos q] at hi; cases hi
    rw [if_neg h3] at h
    exact wpAny_bind (wpAny_rule (wpAny_bind (wpAny_mkInt (wpAny_pure ⟨_, rfl, h _ _⟩))))
end
end Mine
end
section
open PySem PySem.W PyProof.Rows PySem.Calls PySem.Spec
set_option Elab.async false
set_option maxRecDepth 100000
set_option linter.unusedVariables false
set_option linter.unusedSectionVars false
namespace Mine
theorem bytes_no_special : typeLookup (.type "bytes") "__bytes__" = pure (some (.builtin "bytes.__bytes__")) := by rw [typeLookup_type, builtinLookup_eq_fast]; kernel_rfl
theorem bm_new_same {prog : Program} {w : World} {A : Around} {E : Value → Shared → Prop} {s : Shared} {b : Array UInt8} {t : Tok} {Q : Value → Shared → Prop} (hQ : Q (.bytes b t) s) :
    codeAny (model prog w) A (.call (.builtin "bytes.__new__") ⟨[.type "bytes", .bytes b t], []⟩) (wants Q E) s := by
  refine codeAny_of_tree ?_
  show wpAny _ A.in1 (do checkBuiltinCall "bytes.__new__" ⟨[.type "bytes", .bytes b t], []⟩; again (.builtin "bytes.__new__" ⟨[.type "bytes", .bytes b t], []⟩)) _ _ s
  refine wpAny_bind (wpAny_of_eq (PySem.F.bm_newCall _) (wpAny_pure ⟨plainId_quiet PySem.F.bm_plain _, codeAny_builtin PySem.F.bm_entry ?_⟩))
  rw [Around.under_plainId PySem.F.bm_plain _]
  unfold Builtin.«bytes.__new__»
  refine wpAny_bind (wpAny_of_eq (a := true) rfl ?_)
  refine bm_if_false rfl ?_
  refine wpAny_bind (wpAny_of_eq PySem.F.bm_sub ?_)
  refine bm_if_false rfl ?_
  refine wpAny_bind (wpAny_of_eq (PySem.F.bm_bind _) ?_)
  refine wpAny_bind (wpAny_of_eq (a := ()) rfl ?_)
  refine wpAny_bind (wpAny_of_eq (a := ()) rfl ?_)
  refine bm_if_false rfl ?_
  refine wpAny_bind (wpAny_specialOf (typeIs_bytes _ _ _) bytes_no_special ?_)
  refine wpAny_bind (wpAny_rule (wpAny_bind (wpAny_typeOf (typeIs_bytes _ _ _) ?_)))
  exact wpAny_pure hQ
theorem call_bytes_same {prog : Program} {w : World} {A : Around} {E : Value → Shared → Prop} {s : Shared} {b : Array UInt8} {t : Tok} {Q : Value → Shared → Prop} (hQ : Q (.bytes b t) s) : wpAny (model prog w) A (call (.type "bytes") [.bytes b t]) Q E s := by
  refine callType_codes (Q₁ := fun obj s₁ => s₁.TypeIs obj "bytes" ∧ Q obj s₁) PySem.F.bm_called (PySem.F.bm_typeCall _) PySem.F.entry_object_init (bm_new_same ⟨PySem.W.typeIs_bytes _ _ _, hQ⟩) fun obj s₁ h₁ => ?_
  exact ⟨h₁.1, PySem.F.args_object_init_2 obj _, object_init_meets PySem.F.bm_called.init.lookup PySem.F.bm_called.made (by decide) prog w A.in1 _ s₁ ⟨h₁.1, rfl, h₁.2⟩⟩
section
variable {C : Cx} {g : Gh} {σ σ' : Store} {s s' : Shared} {env : Env} {ε : Loc} {n : Nat} {A : Around} {Q : V → Store → Prop} {X : AX → Store → Prop} {QB : Bool → Store → Prop} {QS : Fl → Loc → Store → Prop} {QA : Loc → Store → Prop} {QL : List V → Store → Prop}
theorem tuple_list {l : Addr} {items : List V} (hl : σ l = some (.list items)) (hz : items.length ≤ 1000000) (h : Q (.tup items) σ) : OPL C n env ε (fun vs => call (.type "tuple") vs) [.obj l] σ Q X := fun A g s vs hA D r => by
  obtain ⟨v, r', rfl, rfl, q⟩ := r
  rw [show r' = [] from q]
  obtain ⟨vs, hls, hv⟩ := D.S.sim l _ hl
  refine call_tuple_list hls.isList (fun h' k => ?_) (by rw [List.size_toArray, hv.length, sizeLine_eq]; omega)
  have kk : ∀ b o, s.heap.get? b = some o → (h'.push { cls := .type "tuple", data := .seq vs.toArray }).get? b = some o := fun b o e => Heap.get?_push_of_some _ (k b o e)
  exact ⟨.tup items, σ, D.grown _ kk, TK.of_keeps kk, rv_tup ⟨_, Heap.get?_push_size _ rfl, rfl, _, rfl⟩ (RVs.mono (TK.of_keeps kk) _ _ hv), h⟩
theorem len_list' {l : Addr} {items : List V} (hl : σ l = some (.list items)) (hz : items.length ≤ 1000000) (h : Q (.int items.length) σ) : OPL C n env ε (fun vs => call (.builtin "len") vs) [.obj l] σ Q X := fun A g s vs hA D r => by
  obtain ⟨v, r', rfl, rfl, q⟩ := r
  rw [show r' = [] from q]
  obtain ⟨vs, hls, hv⟩ := D.S.sim l _ hl
  refine PyProof.Rows.len_list hls.isList (by rw [List.size_toArray, hv.length]; omega) ?_
  rw [List.size_toArray, hv.length]
  exact ppt D _ rv_int h
theorem len_tup {l : List V} (hz : l.length ≤ 1000000) (h : Q (.int l.length) σ) : OPL C n env ε (fun vs => call (.builtin "len") vs) [.tup l] σ Q X := fun A g s vs hA D r => by
  obtain ⟨v, r', rfl, ⟨a, vs, rfl, ht, hv⟩, q⟩ := r
  rw [show r' = [] from q]
  refine PyProof.Rows.len_tuple ht (by rw [List.size_toArray, hv.length]; omega) ?_
  rw [List.size_toArray, hv.length]
  exact ppt D _ rv_int h
theorem ord_s {c : Nat} (h : Q (.int c) σ) : OPL C n env ε (fun vs => call (.builtin "ord") vs) [.str ⟨#[c]⟩] σ Q X := fun A g s vs hA D r => by
  obtain ⟨v, r', rfl, ⟨t, rfl⟩, q⟩ := r
  rw [show r' = [] from q]
  exact ord_of_one rfl (ppt D _ rv_int h)
theorem chr_i {i : Int} (h0 : 0 ≤ i) (h1 : i ≤ 1114111) (h : Q (.str ⟨#[i.toNat]⟩) σ) : OPL C n env ε (fun vs => call (.builtin "chr") vs) [.int i] σ Q X := fun A g s vs hA D r => by
  obtain ⟨v, r', rfl, ⟨t, rfl⟩, q⟩ := r
  rw [show r' = [] from q]
  exact chr_of_range h0 h1 (ppt D _ rv_str h)
def byteList (ns : List Int) : Array UInt8 := (ns.map fun i => i.toNat.toUInt8).toArray
theorem bytes_ints {l : Addr} {ns : List Int} (hl : σ l = some (.list (ns.map .int))) (hr : ∀ k ∈ ns, 0 ≤ k ∧ k < 256) (hz : ns.length ≤ 1000000) (h : Q (.bytes (byteList ns)) σ) : OPL C (n + 1) env ε (fun vs => call (.type "bytes") vs) [.obj l] σ Q X := fun A g s vs hA D r => by
  obtain ⟨v, r', rfl, rfl, q⟩ := r
  rw [show r' = [] from q]
  obtain ⟨vs, hls, hv⟩ := D.S.sim l _ hl
  have hi := ints_of_rvs hv
  exact call_bytes_ints hls.isList hi hr (by rw [hi.length, sizeLine_eq]; omega) hA.hn fun h' t k kk => ⟨_, σ, D.grown _ kk, TK.of_keeps kk, rv_bytes, h⟩
theorem bytes_bytes {b : Array UInt8} (h : Q (.bytes b) σ) : OPL C n env ε (fun vs => call (.type "bytes") vs) [.bytes b] σ Q X := fun A g s vs hA D r => by
  obtain ⟨v, r', rfl, ⟨t, rfl⟩, q⟩ := r
  rw [show r' = [] from q]
  exact call_bytes_same (pp D rv_bytes h)
theorem meth_list {nm : Str} {id : String} {pl : Sem Bool} {QM : Value → List V → Store → Prop} {l : Addr} {items : List V} (slot : Slot "list" nm id) (ty : typeOf (.builtin id) = pure (.type "method_descriptor")) (hl : σ l = some (.list items)) (h : QM (.builtin id) [.obj l] σ) :
    OPM C n env ε nm pl (.obj l) σ QM X := fun A g s v a D r => by
  rw [show v = _ from r]
  obtain ⟨vs, ⟨k, ho⟩, hv⟩ := D.S.sim l _ hl
  exact getMethod_builtin ⟨_, ho, rfl⟩ PySem.F.plainAttrs_list slot ty (fun a e => by cases e; exact ⟨_, ho, rfl⟩) ⟨[.obj l], σ, D, TK.refl _, RVs.one rv_obj, h⟩
theorem meth_str {nm : Str} {id : String} {pl : Sem Bool} {QM : Value → List V → Store → Prop} {x : Str} (slot : Slot "str" nm id) (ty : typeOf (.builtin id) = pure (.type "method_descriptor")) (h : QM (.builtin id) [.str x] σ) :
    OPM C n env ε nm pl (.str x) σ QM X := fun A g s v a D r => by
  obtain ⟨t, rfl⟩ := r
  exact getMethod_builtin (typeIs_str _ _ _) PySem.F.plainAttrs_str slot ty (fun _ e => nomatch e) ⟨[.str x], σ, D, TK.refl _, RVs.one rv_str, h⟩
theorem meth_bytes {nm : Str} {id : String} {pl : Sem Bool} {QM : Value → List V → Store → Prop} {x : Array UInt8} (slot : Slot "bytes" nm id) (ty : typeOf (.builtin id) = pure (.type "method_descriptor")) (h : QM (.builtin id) [.bytes x] σ) :
    OPM C n env ε nm pl (.bytes x) σ QM X := fun A g s v a D r => by
  obtain ⟨t, rfl⟩ := r
  exact getMethod_builtin (typeIs_bytes _ _ _) FB.plainAttrs_bytes slot ty (fun _ e => nomatch e) ⟨[.bytes x], σ, D, TK.refl _, RVs.one rv_bytes, h⟩
theorem meth_K_tup (O : C.Ok) {nm : Str} {id : String} {pl : Sem Bool} {QM : Value → List V → Store → Prop} {a : Addr} {xs : Array Value} {k : Nat} {sl : Array (Option Value)} (slot : Slot "tuple" nm id) (ty : typeOf (.builtin id) = pure (.type "method_descriptor"))
    (hK : C.K.lookup a = some ⟨.type "tuple", none, .seq xs k, sl⟩) (h : QM (.builtin id) [.raw (.ref a)] σ) : OPM C n env ε nm pl (.raw (.ref a)) σ QM X := fun A g s v hA D r => by
  rw [show v = _ from r]
  have ho := D.S.K O _ _ hK
  exact getMethod_builtin ⟨_, ho, rfl⟩ PySem.F.plainAttrs_tuple slot ty (fun a e => by cases e; exact ⟨_, ho, rfl⟩) ⟨[.raw (.ref a)], σ, D, TK.refl _, RVs.one rv_raw, h⟩
theorem append_l {l : Addr} {items : List V} {x : V} (hl : σ l = some (.list items)) (hz : items.length ≤ 1000000) (h : Q .none (upd σ l (.list (items ++ [x])))) : OPL C n env ε (fun vs => call (.builtin "list.append") vs) [.obj l, x] σ Q X := fun A g s vs hA D r => by
  obtain ⟨v, r', rfl, rfl, w, r'', rfl, rx, q⟩ := r
  rw [show r'' = [] from q]
  obtain ⟨vs, hls, hv⟩ := D.S.sim l _ hl
  obtain ⟨k, ho⟩ := id hls
  refine append_pl hls (fun h' hl' hs => ?_) (by rw [hv.length, sizeLine_eq]; omega)
  obtain ⟨D', k'⟩ := D.set (h' := h') (x := .list (items ++ [x])) s.toks hl hs ho (NT.list rfl) fun kk => ⟨_, hl', RVs.append (RVs.mono kk _ _ hv) (RVs.one (RV.mono kk _ _ rx))⟩
  exact ⟨.none, _, D', k', rv_none, h⟩
theorem insert0_l {l : Addr} {items : List V} {x : V} (hl : σ l = some (.list items)) (hz : items.length ≤ 1000000) (h : Q .none (upd σ l (.list (x :: items)))) : OPL C n env ε (fun vs => call (.builtin "list.insert") vs) [.obj l, .int 0, x] σ Q X := fun A g s vs hA D r => by
  obtain ⟨v, r', rfl, rfl, w, r'', rfl, ⟨t, rfl⟩, y, r3, rfl, rx, q⟩ := r
  rw [show r3 = [] from q]
  obtain ⟨vs, ⟨k, ho⟩, hv⟩ := D.S.sim l _ hl
  have hT : s.TypeIs (.ref l) "list" := ⟨_, ho, rfl⟩
  refine call_meets PySem.F.slot_list_insert hT PySem.F.entry_list_insert (PySem.F.args_list_insert_3 _ _ _) (PySem.AutoSeq1.list_insert_list_int_val_1 l vs.toArray k 0 t y (by decide) (by rw [List.size_toArray, hv.length, sizeLine_eq]; omega)) ⟨ho, ?_⟩
  generalize hF : (fun xs : Array Value => have k := if (0 : Int) < 0 then ((0 : Int) + (xs.size : Int)).toNat else min (0 : Int).toNat xs.size; (xs.extract 0 k).push y ++ xs.extract k) = F
  have e : F vs.toArray = (y :: vs).toArray := by
    rw [← hF]
    show (vs.toArray.extract 0 (if (0 : Int) < 0 then ((0 : Int) + (vs.toArray.size : Int)).toNat else min (0 : Int).toNat vs.toArray.size)).push y ++ vs.toArray.extract (if (0 : Int) < 0 then ((0 : Int) + (vs.toArray.size : Int)).toNat else min (0 : Int).toNat vs.toArray.size) = _
    rw [kl_ins_eq]; simp
  have hu := get?_update_seq ho F
  rw [e] at hu
  obtain ⟨D', k'⟩ := D.set (x := .list (x :: items)) s.toks hl (Heap.SameBut.update ..) ho (NT.list rfl) fun kk => ⟨y :: vs, ⟨_, hu⟩, RVs.cons (RV.mono kk _ _ rx) (RVs.mono kk _ _ hv)⟩
  exact ⟨.none, _, D', k', rv_none, h⟩
theorem encode_s {x : Str} (h0 : ∀ c ∈ x.cps, c < 128) (hz : x.cps.size ≤ 1000000) (h : Q (.bytes (x.cps.map fun c => c.toUInt8)) σ) : OPL C n env ε (fun vs => call (.builtin "str.encode") vs) [.str x, .str "ascii"] σ Q X := fun A g s vs hA D r => by
  obtain ⟨v, r', rfl, ⟨t, rfl⟩, w, r'', rfl, ⟨u, rfl⟩, q⟩ := r
  rw [show r'' = [] from q]
  exact call_meets PySem.F.slot_str_encode (typeIs_str _ _ _) PySem.F.entry_str_encode (PySem.F.args_str_encode_2 _ _) (meets_encode h0 (by rw [sizeLine_eq]; omega)) fun t' k => ppt D _ rv_bytes h
theorem decode_b {b : Array UInt8} (h0 : ∀ c ∈ b, c.toNat < 128) (hz : b.size ≤ 1000000) (h : Q (.str ⟨(b.toList.map (·.toNat)).toArray⟩) σ) : OPL C n env ε (fun vs => call (.builtin "bytes.decode") vs) [.bytes b, .str "ascii"] σ Q X := fun A g s vs hA D r => by
  obtain ⟨v, r', rfl, ⟨t, rfl⟩, w, r'', rfl, ⟨u, rfl⟩, q⟩ := r
  rw [show r'' = [] from q]
  exact call_meets FB.slot_bytes_decode (typeIs_bytes _ _ _) FB.entry_bytes_decode (args_decode_2 _ _) (meets_decode2 h0 hz) fun t' k => ppt D _ rv_str h
theorem find_b {c : UInt8} (h : Q (.int (kindAt c)) σ) : OPL C n env ε (fun vs => call (.builtin "bytes.find") vs) [.bytes #[83, 82, 73], .bytes #[c]] σ Q X := fun A g s vs hA D r => by
  obtain ⟨v, r', rfl, ⟨t, rfl⟩, w, r'', rfl, ⟨u, rfl⟩, q⟩ := r
  rw [show r'' = [] from q]
  exact call_meets slot_find (typeIs_bytes _ _ _) entry_find (args_find _ _) (meets_find c t u) fun t' k => ppt D _ rv_int h
theorem mul_si {x : Str} {k : Int} (hok : MulOk x k) (h : Q (.str (Txt.mul x k)) σ) : OP2 C n env ε (binaryOp .Mult) (.str x) (.int k) σ Q X := fun A g s v w hA D r r' => by
  obtain ⟨t, rfl⟩ := r; obtain ⟨u, rfl⟩ := r'
  exact SB.mul hok fun t' k' => ppt D _ rv_str h
end
end Mine
end
section
open PySem PySem.W PyProof.Rows PySem.Calls PySem.Spec
set_option Elab.async false
set_option maxRecDepth 100000
set_option linter.unusedVariables false
set_option linter.unusedSectionVars false
namespace Mine
open PySem.SeqAt
theorem tup_is {h : Heap} {a : Addr} {xs : Array Value} (t : IsTup h a xs) : h.IsTuple a xs := t
mutual
def V.depth : V → Nat
  | .tup l => V.depths l + 1
  | _ => 0
def V.depths : List V → Nat
  | [] => 0
  | x :: l => max x.depth (V.depths l)
end
mutual
def V.eqs : V → Bool
  | .none => true
  | .int _ => true
  | .str _ => true
  | .bytes _ => true
  | .tup l => V.eqss l
  | _ => false
def V.eqss : List V → Bool
  | [] => true
  | x :: l => x.eqs && V.eqss l
end
theorem eq_bytes_same (A : Around) (s : Shared) (b : Array UInt8) (t u : Tok) : EqAt A s (.bytes b t) (.bytes b u) true := fun prog w E Q h => by
  unfold eqBool
  refine wpAny_holding ?_
  refine wpAny_ite_split (fun _ => wpAny_bind (wpAny_rule (wpAny_pure h))) fun _ => ?_
  have k : wpAny (model prog w) A (compareOp .Eq (.bytes b t) (.bytes b u)) (fun v s' => wpAny (model prog w) A (truthOfDropped v) Q E s') E s := by
    refine eq_bytes ?_
    rw [beq_self_eq_true]
    exact wpAny_truthy_bool h
  exact wpAny_bind k
mutual
theorem eq_same : ∀ (x : V) (A : Around) (s : Shared) (v w : Value), RV s.heap x v → RV s.heap x w → x.eqs = true → A.units + x.depth + 1 < cLine → EqAt A s v w true
  | .none, A, s, v, w, r, r', _, _ => by rw [show v = _ from r, show w = _ from r']; exact EqAt.same _
  | .int i, A, s, v, w, ⟨t, e⟩, ⟨u, e'⟩, _, _ => by subst e e'; simpa using EqAt.int_int (A := A) (s := s) i t i u
  | .str i, A, s, v, w, ⟨t, e⟩, ⟨u, e'⟩, _, _ => by subst e e'; simpa using EqAt.str_str (A := A) (s := s) i t i u
  | .bytes i, A, s, v, w, ⟨t, e⟩, ⟨u, e'⟩, _, _ => by subst e e'; exact eq_bytes_same A s i t u
  | .tup l, A, s, v, w, ⟨a, vs, e, ht, hv⟩, ⟨b, ws, e', ht', hw⟩, he, hu => by
    subst e e'
    by_cases hab : a = b
    · subst hab; exact EqAt.same _
    · refine EqAt.of_refs hab ?_
      have := RcAt.tuples (A := A) (s := s) (e := fun _ => true) (tup_is ht) (tup_is ht') (by simp [V.depth] at hu; omega) (fun j h1 h2 => by
        have := eqs_same l A.in1 s vs ws hv hw (by simpa [V.eqs] using he) (by show A.units + 1 + _ + 1 < _; simp [V.depth] at hu; omega) j (by simpa using h1) (by simpa using h2)
        simpa using this)
      have e : ((List.range (min vs.toArray.size ws.toArray.size)).all (fun _ => true) && vs.toArray.size == ws.toArray.size) = true := by
        simp [hv.length, hw.length]
      rw [e] at this
      exact this
  | .bool _, _, _, _, _, _, _, he, _ => by simp [V.eqs] at he
  | .obj _, _, _, _, _, _, _, he, _ => by simp [V.eqs] at he
  | .raw _, _, _, _, _, _, _, he, _ => by simp [V.eqs] at he
theorem eqs_same : ∀ (l : List V) (A : Around) (s : Shared) (vs ws : List Value), RVs s.heap l vs → RVs s.heap l ws → V.eqss l = true → A.units + V.depths l + 1 < cLine → ∀ (j : Nat) (h1 : j < vs.length) (h2 : j < ws.length), EqAt A s vs[j] ws[j] true
  | [], _, _, _, _, r, _, _, _, j, h1, _ => by rw [show _ = [] from r] at h1; simp at h1
  | x :: l, A, s, _, _, ⟨v, vs, e, r1, r2⟩, ⟨w, ws, e', r1', r2'⟩, he, hu, j, h1, h2 => by
    subst e e'
    simp [V.eqss] at he
    simp [V.depths] at hu
    cases j with
    | zero => exact eq_same x A s v w r1 r1' he.1 (by omega)
    | succ j => exact eqs_same l A s vs ws r2 r2' he.2 (by omega) j (by simpa using h1) (by simpa using h2)
end
section
variable {C : Cx} {g : Gh} {σ σ' : Store} {s s' : Shared} {env : Env} {ε : Loc} {n : Nat} {A : Around} {Q : V → Store → Prop} {X : AX → Store → Prop} {QB : Bool → Store → Prop} {QS : Fl → Loc → Store → Prop} {QA : Loc → Store → Prop} {QL : List V → Store → Prop}
theorem tup_shape {l : List V} {A : Around} {s : Shared} {vs ws : List Value} {a b : Addr} (ht : IsTup s.heap a vs.toArray) (ht' : IsTup s.heap b ws.toArray) (hv : RVs s.heap l vs) (hw : RVs s.heap l ws) (he : V.eqss l = true) (hu : A.units + V.depths l + 2 < cLine) :
    (∀ j (h1 : j < vs.toArray.size) (h2 : j < ws.toArray.size), EqAt A.in1 s vs.toArray[j] ws.toArray[j] true) ∧ ((List.range (min vs.toArray.size ws.toArray.size)).all (fun _ => true) && vs.toArray.size == ws.toArray.size) = true :=
  ⟨fun j h1 h2 => by
    have := eqs_same l A.in1 s vs ws hv hw he (by show A.units + 1 + _ + 1 < _; omega) j (by simpa using h1) (by simpa using h2)
    simpa using this, by simp [hv.length, hw.length]⟩
theorem eq_tt {l : List V} (he : V.eqss l = true) (hd : V.depths l ≤ 100) (h : Q (.bool true) σ) : OP2 C n env ε (compareOp .Eq) (.tup l) (.tup l) σ Q X := fun A g s v w hA D ⟨a, vs, e, ht, hv⟩ ⟨b, ws, e', ht', hw⟩ => by
  subst e e'
  have hun := hA.units
  obtain ⟨h1, h2⟩ := tup_shape (A := A) ht ht' hv hw he (by show _ < 9900; omega)
  exact eq_tupleAt (e := fun _ => true) (tup_is ht) (tup_is ht') (hA.urm) h1 (by rw [h2]; exact pp D rv_bool h)
theorem ne_tt {l : List V} (he : V.eqss l = true) (hd : V.depths l ≤ 100) (h : Q (.bool false) σ) : OP2 C n env ε (compareOp .NotEq) (.tup l) (.tup l) σ Q X := fun A g s v w hA D ⟨a, vs, e, ht, hv⟩ ⟨b, ws, e', ht', hw⟩ => by
  subst e e'
  have hun := hA.units
  obtain ⟨h1, h2⟩ := tup_shape (A := A) ht ht' hv hw he (by show _ < 9900; omega)
  exact RcNeAt.tuples (e := fun _ => true) (tup_is ht) (tup_is ht') (hA.urm) h1 C.prog C.w _ _ (by rw [h2]; exact pp D rv_bool h)
theorem ne_ll {a b : Addr} {l : List V} (ha : σ a = some (.list l)) (hb : σ b = some (.list l)) (he : V.eqss l = true) (hd : V.depths l ≤ 100) (h : Q (.bool false) σ) : OP2 C n env ε (compareOp .NotEq) (.obj a) (.obj b) σ Q X := fun A g s v w hA D r r' => by
  rw [show v = _ from r, show w = _ from r']
  obtain ⟨vs, hls, hv⟩ := D.S.sim a _ ha
  obtain ⟨ws, hls', hw⟩ := D.S.sim b _ hb
  have hun := hA.units
  refine RcNeAt.lists (e := fun _ => true) hls.isList hls'.isList (by simp [hv.length, hw.length]) hA.urm (fun j h1 h2 => ?_) C.prog C.w _ _ ?_
  · have := eqs_same l A.in1 s vs ws hv hw he (by show A.units + 1 + _ + 1 < 9900; omega) j (by simpa using h1) (by simpa using h2)
    simpa using this
  · have : (List.range vs.toArray.size).all (fun _ => true) = true := by simp
    rw [this]; exact pp D rv_bool h
theorem ne_l0 {a b : Addr} {l : List V} (ha : σ a = some (.list l)) (hb : σ b = some (.list [])) (h : Q (.bool (!l.isEmpty)) σ) : OP2 C n env ε (compareOp .NotEq) (.obj a) (.obj b) σ Q X := fun A g s v w hA D r r' => by
  rw [show v = _ from r, show w = _ from r']
  obtain ⟨vs, hls, hv⟩ := D.S.sim a _ ha
  obtain ⟨ws, hls', hw⟩ := D.S.sim b _ hb
  rw [show ws = [] from hw] at hls'
  cases l with
  | nil =>
    rw [show vs = [] from hv] at hls
    exact RcNeAt.lists (e := fun _ => true) hls.isList hls'.isList rfl hA.urm (fun j h1 h2 => by simp at h1) C.prog C.w _ _ (pp D (x := .bool false) rfl h)
  | cons x l =>
    refine RcNeAt.lists_lengths hls.isList hls'.isList ?_ hA.urm C.prog C.w _ _ (pp D (x := .bool true) rfl h)
    simp [hv.length]
theorem eq_l0 {a b : Addr} {l : List V} (ha : σ a = some (.list l)) (hb : σ b = some (.list [])) (h : Q (.bool l.isEmpty) σ) : OP2 C n env ε (compareOp .Eq) (.obj a) (.obj b) σ Q X := fun A g s v w hA D r r' => by
  rw [show v = _ from r, show w = _ from r']
  obtain ⟨vs, hls, hv⟩ := D.S.sim a _ ha
  obtain ⟨ws, hls', hw⟩ := D.S.sim b _ hb
  rw [show ws = [] from hw] at hls'
  cases l with
  | nil =>
    rw [show vs = [] from hv] at hls
    exact RcAt.lists (e := fun _ => true) hls.isList hls'.isList rfl hA.urm (fun j h1 h2 => by simp at h1) C.prog C.w _ _ (pp D (x := .bool true) rfl h)
  | cons x l =>
    refine RcAt.lists_lengths hls.isList hls'.isList ?_ hA.urm C.prog C.w _ _ (pp D (x := .bool false) rfl h)
    simp [hv.length]
def isS (x : Str) : Value → Bool
  | .str y _ => y == x
  | _ => false
theorem any_isS {h : Heap} {x : Str} : ∀ {l : List Str} {vs : List Value}, RVs h (l.map .str) vs → vs.any (isS x) = l.any (· == x)
  | [], _, r => by rw [show _ = [] from r]; rfl
  | y :: l, _, r => by obtain ⟨v, q, rfl, ⟨t, rfl⟩, r2⟩ := r; simp only [List.any_cons, any_isS r2]; rfl
theorem isS_eq {h : Heap} {x : Str} {u : Tok} {A : Around} {s : Shared} : ∀ {l : List Str} {vs : List Value}, RVs h (l.map .str) vs → ∀ y, y ∈ vs → EqAt A s y (.str x u) (isS x y)
  | [], _, r, y, hy => by rw [show _ = [] from r] at hy; simp at hy
  | z :: l, _, r, y, hy => by
    obtain ⟨v, q, rfl, ⟨t, rfl⟩, r2⟩ := r
    rcases List.mem_cons.mp hy with rfl | hy
    · exact EqAt.str_str z t x u
    · exact isS_eq r2 y hy
theorem in_strs {l : List Str} {x : Str} (h : Q (.bool (l.any (· == x))) σ) : OP2 C n env ε (compareOp .In) (.str x) (.tup (l.map .str)) σ Q X := fun A g s v w hA D ⟨t, e⟩ ⟨a, vs, e', ht, hv⟩ => by
  subst e e'
  exact in_tupleAt (isS x) (tup_is ht) (fun y hy => isS_eq hv y (by simpa using hy)) (by rw [List.any_toArray, any_isS hv]; exact pp D rv_bool h)
theorem notin_strs {l : List Str} {x : Str} (h : Q (.bool (!l.any (· == x))) σ) : OP2 C n env ε (compareOp .NotIn) (.str x) (.tup (l.map .str)) σ Q X := fun A g s v w hA D ⟨t, e⟩ ⟨a, vs, e', ht, hv⟩ => by
  subst e e'
  exact notIn_tupleAt (isS x) (tup_is ht) (fun y hy => isS_eq hv y (by simpa using hy)) (by rw [List.any_toArray, any_isS hv]; exact pp D rv_bool h)
end
end Mine
end
section
open PySem PySem.W PyProof.Rows PySem.Calls PySem.Spec
set_option Elab.async false
set_option maxRecDepth 100000
set_option linter.unusedVariables false
set_option linter.unusedSectionVars false
namespace Mine
section
variable {prog : Program} {w : World} {A : Around} {R : Result → Shared → Prop} {h : Heap} {g : Array GenState} {d : Drawn} {t : Nat} {os : OsState}
variable {nm q : Str} {C N : Addr} {bs bm : List Value} {hdct : Bool} {sn : List Str} {sub : List Value} {ab : Bool} {col : Option Bool} {dd : Option Addr} {k0 k1 k2 k3 k5 : Option Value}
abbrev excOb (C T : Addr) : Obj := { cls := .ref C, data := .fields #[.ref T, .none, .none, .none, .bool false, .none] }
theorem exc_check_new {M : Model} {A : Around} {E : Value → Shared → Prop} {rest : List Value} {Q : Unit → Shared → Prop} (hC : h.get? C = some (excClassObj nm q C N bs bm hdct sn sub ab col dd k0 k1 k2 k3 k5 "Exception.__new__"))
    (hE : bm.contains (.type "Exception") = true) (hq : Q () ⟨h, g, d, t, os⟩) : wpAny M A (checkBuiltinCall "Exception.__new__" ⟨.ref C :: rest, []⟩) Q E ⟨h, g, d, t, os⟩ := by
  have F := PySem.F.excBase_Exception
  have hcont : (Value.ref C :: bm).contains (.type "Exception") = true := by rw [List.contains_cons, hE, Bool.or_true]
  have hstar := F.noStar
  simp only [checkBuiltinCall, F.newKind, F.newSplit, F.newRow]
  repeat (first | refine wpAny_loadPart_at hC ?_ | (refine wpAny_isSubtype_exc hC ?_; rw [hcont]) | refine wpAny_staticBase_exc hC ?_ | refine wpAny_madeBy_exc hC ?_ | simp only [bne_self_eq_false, Bool.false_eq_true, if_false] | wp_step)
  exact hq
theorem exc_new {rest : List Value} (hC : h.get? C = some (excClassObj nm q C N bs bm hdct sn sub ab col dd k0 k1 k2 k3 k5 "Exception.__new__"))
    (hE : bm.contains (.type "Exception") = true) (hA : bm.contains (.type "AttributeError") = false) (hN : bm.contains (.type "NameError") = false) (hz : rest.length ≤ sizeLine)
    (hq : R (.ok (.ret (.ref (h.objs.size + 1)))) ⟨(h.push { cls := .type "tuple", data := .seq rest.toArray }).push (excOb C h.objs.size), g, d, t, os⟩) :
    codeAny (model prog w) A (.builtin "Exception.__new__" ⟨.ref C :: rest, []⟩) R ⟨h, g, d, t, os⟩ := by
  have F := PySem.F.excBase_Exception
  have hends := F.ends
  have hcB : (Value.ref C :: bm).contains (.type "Exception") = true := by rw [List.contains_cons, hE, Bool.or_true]
  have hcA : (Value.ref C :: bm).contains (.type "AttributeError") = false := by rw [List.contains_cons, hA]; rfl
  have hcN : (Value.ref C :: bm).contains (.type "NameError") = false := by rw [List.contains_cons, hN]; rfl
  refine codeAny_builtinAt F.entry ?_
  unfold Builtin.«BaseException.__new__»
  refine PySem.wpAt_bind ?_
  show PySem.wpAt _ _ _ (stack >>= _) _ _ _
  refine PySem.wpAt_bind (PySem.wpAt_stack fun p below => PySem.wpAt_of_wpAny ?_)
  wp_walk
  refine PySem.wpAt_of_wpAny ?_
  rw [F.owner]
  repeat (first | with_reducible refine wpAny_madeHere_exc F.canon hC ?_ | with_reducible refine wpAny_loadPart_at hC ?_ | (with_reducible refine wpAny_isSubtype_exc hC ?_; first | rw [hcB] | rw [hcA] | rw [hcN]) | wp_step)
  show R _ _
  rw [Heap.size_push]
  exact hq
theorem exc_core {fI : Addr} {rest : List Value} (hC : h.get? C = some (excClassObj nm q C N bs bm hdct sn sub ab col dd k0 k1 k2 k3 k5 "Exception.__new__"))
    (hE : bm.contains (.type "Exception") = true) (hA : bm.contains (.type "AttributeError") = false) (hN : bm.contains (.type "NameError") = false) (hz : rest.length ≤ sizeLine)
    (hi : Looks (model prog w) h (typeLookup (.ref C) "__init__") (some (.ref fI))) (hb : ∀ self, Looks (model prog w) h (bindSpecial (.ref fI) self) (.ref fI, [self]))
    (hq : codeAny (model prog w) (A.under (.builtin "type.__call__" ⟨.ref C :: rest, []⟩)) (.call (.ref fI) ⟨.ref (h.objs.size + 1) :: rest, []⟩) (InitBack (h.objs.size + 1) R)
      ⟨(h.push { cls := .type "tuple", data := .seq rest.toArray }).push (excOb C h.objs.size), g, d, t, os⟩) :
    codeAny (model prog w) A (.call (.ref C) ⟨rest, []⟩) R ⟨h, g, d, t, os⟩ := by
  have F := PySem.F.excBase_Exception
  have f1 := tc_lookup
  have f2 := tc_bind (.ref C)
  have hT : (⟨h, g, d, t, os⟩ : Shared).TypeIs (.ref C) "type" := ⟨_, hC, rfl⟩
  refine codeAny_of_tree ?_
  show wpAny _ _ (callAny (.ref C) _) _ _ _
  repeat (any_goals (first | assumption | with_reducible refine wpAny_loadPart_at hC ?_ | wp_step))
  refine ⟨rfl, ?_⟩
  refine codeAny_call_builtin_at (Code.quiet_builtin _ (by decide +kernel)) entry_typeCall (wpAny_check_type_call_sub hC ?_)
  repeat (first | with_reducible refine wpAny_loadPart_at hC ?_ | with_reducible refine wpAny_madeBy_exc hC ?_ | wp_step)
  refine codeAny_call_builtin_code (Code.quiet_builtin _ F.quiet) (exc_check_new hC hE ?_)
  refine exc_new hC hE hA hN hz ?_
  show wpAny _ _ _ _ _ _
  have k : ∀ b o, h.get? b = some o → ((h.push { cls := .type "tuple", data := .seq rest.toArray }).push (excOb C h.objs.size)).get? b = some o := fun b o e => Heap.get?_push_of_some _ (Heap.get?_push_of_some _ e)
  have hC₁ := k _ _ hC
  have hget : ((h.push { cls := .type "tuple", data := .seq rest.toArray }).push (excOb C h.objs.size)).get? (h.objs.size + 1) = some (excOb C h.objs.size) := by heap_get
  have hcC : (Value.ref C :: bm).contains (.ref C) = true := by simp
  unfold isInstance
  repeat (first | with_reducible refine wpAny_loadPart_at hget ?_ | wp_step)
  show wpAny _ _ (isSubtype (.ref C) (.ref C)) _ _ _
  refine wpAny_isSubtype_exc hC₁ ?_
  rw [hcC]
  repeat (first | with_reducible refine wpAny_loadPart_at hget ?_ | wp_step)
  show wpAny _ _ (typeLookup (.ref C) _) _ _ _
  refine (hi.keeps k).at ?_
  refine wpAny_holding (wpAny_bind ((hb _).keeps k |>.at ?_))
  refine wpAny_bind (wpAny_call (codeAny_mono hq fun r s' z => ?_))
  rcases r with e | (_ | _ | _ | v)
  · exact z
  · exact z.elim
  · exact z.elim
  · exact z.elim
  · obtain ⟨rfl, z⟩ := z
    wp_walk
    exact z
end
end Mine
end
section
open PySem PySem.W PyProof.Rows PySem.Calls PySem.Spec
set_option Elab.async false
set_option maxRecDepth 100000
set_option linter.unusedVariables false
set_option linter.unusedSectionVars false
namespace Mine
def ExcIn (K : Frag) (c : Addr) : Prop := ∃ nm q N bs bm hdct sn sub ab col dd k0 k1 k2 k3 k5, K.lookup c = some (excClassObj nm q c N bs bm hdct sn sub ab col dd k0 k1 k2 k3 k5 "Exception.__new__") ∧
  bm.contains (.type "Exception") = true ∧ bm.contains (.type "AttributeError") = false ∧ bm.contains (.type "NameError") = false ∧ bm.contains (.type "BaseException") = true
section
variable {C : Cx} {g : Gh} {σ σ' : Store} {s s' : Shared} {env : Env} {ε : Loc} {n : Nat} {A : Around} {Q : V → Store → Prop} {X : AX → Store → Prop} {QB : Bool → Store → Prop} {QS : Fl → Loc → Store → Prop}
theorem CALL_exc (O : C.Ok) {c fI : Addr} {args : List V} (hx : ExcIn C.K c) (hi : findIn C.K (.ref c) "__init__" = some (some (.ref fI))) (hf : isFn C.K (.ref fI) = true) (hz : args.length ≤ 100)
    (h : ∀ x, σ x = none → CALL C n (.ref fI) (.obj x :: args) (upd σ x (.exc c none true)) (fun r σ' => r = .none ∧ Q (.obj x) σ') X) : CALL C (n + 1) (.ref c) args σ Q X := fun A g s vs a S r => by
  obtain ⟨hh, gs, dr, t, os⟩ := s
  have K := S.K O
  obtain ⟨nm, q, N, bs, bm, hdct, sn, sub, ab, col, dd, k0, k1, k2, k3, k5, e0, e1, e2, e3, e4⟩ := hx
  have hl := r.length
  refine exc_core (K _ _ e0) e1 e2 e3 (by rw [hl, sizeLine_eq]; omega) (looks_findIn K hi) (fun self => bind_fn K self (beq_iff_eq.mp hf)) ?_
  have f2 := S.fresh (a := hh.objs.size + 1) (Nat.le_succ _)
  have S1 := S.push ({ cls := .type "tuple", data := .seq vs.toArray }) t
  have S2 := S1.push (excOb c hh.objs.size) t
  have g2 : ((hh.push { cls := .type "tuple", data := .seq vs.toArray }).push (excOb c hh.objs.size)).get? (hh.objs.size + 1) = some (excOb c hh.objs.size) := by
    have := Heap.get?_push_size (hh.push { cls := .type "tuple", data := .seq vs.toArray }) (o := excOb c hh.objs.size) rfl
    rwa [Heap.size_push] at this
  have S4 := S2.add (a := hh.objs.size + 1) (o := .exc c none true) f2.2.1 f2.2.2 ⟨_, _, g2, Nat.lt_of_lt_of_le (by decide : 1 < 6) (Nat.le_refl _), fun _ => rfl⟩
  have k : TK hh ((hh.push { cls := .type "tuple", data := .seq vs.toArray }).push (excOb c hh.objs.size)) := (TK.push _ _).trans (TK.push _ _)
  refine codeAny_mono (h _ f2.1 _ g _ (.ref (hh.objs.size + 1) :: vs) a.make S4 (RVs.cons rv_obj (RVs.mono k _ _ r))) fun r s' z => ?_
  rcases r with e | (_ | _ | _ | v)
  · obtain ⟨x, σ', b, p, q, r, z⟩ := z; exact ⟨x, σ', b, p, k.trans q, r, z⟩
  · exact z
  · exact z
  · exact z
  · obtain ⟨x, σ', p, q, r, rfl, z⟩ := z; exact ⟨r, .obj _, σ', p, k.trans q, rv_obj, z⟩
theorem meth_type (O : C.Ok) {T id : String} {nm : Str} {pl : Sem Bool} {QM : Value → List V → Store → Prop} (ht : typeOf (.type T) = pure (.type "type")) (hs : Manifest.isStub T = false)
    (e : findCls C.K (.type T) (.type "type") nm = some (.val (.builtin id))) (hh : handedIn (.builtin id) = true) (h : QM (.builtin id) [] σ) : OPM C n env ε nm pl (.raw (.type T)) σ QM X := fun A g s v a D r => by
  rw [show v = _ from r]
  have X := D.S.K O
  have hstub : opaqueClassAbove (.type T) = pure none := by unfold opaqueClassAbove; dsimp only; rw [hs]; rfl
  have L0 : Looks C.M s.heap (typeOf (.type T)) (.type "type") := Looks.of_pure ht
  have hg : findIn C.K (.type "type") "__getattribute__" = some (some (.builtin "type.__getattribute__")) := type_tga
  unfold getMethod specialOf
  refine wpAny_bind (wpAny_bind (L0.here ((looks_findIn X hg).here ?_)))
  dsimp only
  rw [if_pos canon_tga]
  have LO : Looks C.M s.heap (opaqueClassAbove (.type T)) none := Looks.of_pure hstub
  have D1 := D.tk (s.toks + 1)
  refine wpAny_bind (wpAny_mono (Q := fun v s' => v = .builtin id ∧ s' = { s with toks := s.toks + 1 }) (E := fun _ _ => False) ?_ (fun v s' z => wpAny_pure ⟨[], σ, ?_, ?_, rfl, ?_⟩) fun _ _ z => z.elim)
  · refine cls_open X LO L0 hg (looks_hook X (r := none) (by rfl)) (by show subIn C.K _ _ = _; rfl) e
      (wpAny_pure (by show wpAny _ _ (handedOut _) _ _ _; rw [handedOut_of hh]; exact wpAny_pure ⟨rfl, rfl⟩))
  · rw [z.2]; exact D1
  · rw [z.2]; exact TK.refl _
  · rw [z.1]; exact h
theorem exc_check_init {nm q : Str} {c N : Addr} {bs bm : List Value} {hdct : Bool} {sn : List Str} {sub : List Value} {ab : Bool} {col : Option Bool} {dd : Option Addr} {k0 k1 k2 k3 k5 : Option Value} {newId : String}
    {M : Model} {h : Heap} {g : Array GenState} {d : Drawn} {t : Nat} {os : OsState} {E : Value → Shared → Prop} {e : Addr} {oe : Obj} {rest : List Value} {Q : Unit → Shared → Prop}
    (hC : h.get? c = some (excClassObj nm q c N bs bm hdct sn sub ab col dd k0 k1 k2 k3 k5 newId)) (hB : bm.contains (.type "Exception") = true) (he : h.get? e = some oe) (hcls : oe.cls = .ref c) (hq : Q () ⟨h, g, d, t, os⟩) :
    wpAny M A (checkBuiltinCall "Exception.__init__" ⟨.ref e :: rest, []⟩) Q E ⟨h, g, d, t, os⟩ := by
  have F := PySem.F.excBase_Exception
  have hcB : (Value.ref c :: bm).contains (.type "Exception") = true := by rw [List.contains_cons, hB, Bool.or_true]
  have hshort := F.noStar
  simp only [checkBuiltinCall, F.initKind, F.initSplit, F.initRow]
  repeat (first | (with_reducible refine wpAny_loadPart_at he ?_; rw [hcls]) | with_reducible refine wpAny_loadPart_at hC ?_ | (with_reducible refine wpAny_isSubtype_exc hC ?_; rw [hcB]) | wp_step)
  refine wpAny_onRaise ?_
  rw [show ∀ (a b : String) (n : Nat), Bind.check ⟨.positional, "*", "Exception", .self, [⟨"args", .varPos, false⟩]⟩ a b n (List.map (fun x => x.fst) ({ pos := Value.ref e :: rest } : Args).kw) = pure () from
    fun a b n => check_star_args _ _ _ _ _ _]
  exact wpAny_pure hq
theorem upd_same {a : Addr} {o : AO} (h : σ a = some o) : upd σ a o = σ := by
  funext b; by_cases hb : b = a
  · subst hb; simp [upd, h]
  · simp [upd, hb]
theorem exc_init (O : C.Ok) {e c : Addr} {d : Option Addr} {fr : Bool} {xs : List V} (hx : ExcIn C.K c) (hσ : σ e = some (.exc c d fr)) (hz : xs.length ≤ 100) (h : Q .none σ) :
    OPL C n env ε (fun vs => call (.builtin "Exception.__init__") vs) (.obj e :: xs) σ Q X := fun A g s vs a D r => by
  obtain ⟨v, rest, rfl, r1, r2⟩ := r
  rw [show v = _ from r1]
  have F := PySem.F.excBase_Exception
  obtain ⟨hh, gs, dr, t, os⟩ := s
  obtain ⟨nm, q, N, bs, bm, hdct, sn, sub, ab, col, dd, k0, k1, k2, k3, k5, e0, e1, e2, e3, e4⟩ := hx
  obtain ⟨ws, sl, ho, hw, hf⟩ := D.S.sim e _ hσ
  have hl := r2.length
  refine wpAny_call (codeAny_call_builtin F.init.plain F.initEntry (exc_check_init (D.S.K O _ _ e0) e1 ho rfl ?_))
  unfold Builtin.«BaseException.__init__»
  dsimp only
  rw [if_neg (by simp)]
  unfold newTuple Builtin.BaseException.bexcPut
  have D1 := D.push { cls := .type "tuple", data := .seq rest.toArray } t
  have ho1 := Heap.get?_push_of_some (h := hh) { cls := .type "tuple", data := .seq rest.toArray } ho
  refine wpAny_bind (wpAny_newObj_type (wpAny_bind (wpAny_bind (wpAny_field ho1 rfl (Array.getElem?_eq_getElem (Nat.lt_of_succ_lt hw)) (wpAny_bind (wpAny_setField ho1 rfl (Nat.lt_of_succ_lt hw) ?_))))) (by show rest.toArray.size ≤ sizeLine; rw [List.size_toArray, hl, sizeLine_eq]; omega))
  have hu := Heap.get?_update_self (h := hh.push { cls := .type "tuple", data := .seq rest.toArray }) (Obj.mapFields (·.setIfInBounds 0 (.ref hh.objs.size))) ho1 rfl
  obtain ⟨D', k⟩ := D1.set (h' := (hh.push { cls := .type "tuple", data := .seq rest.toArray }).update e (Obj.mapFields (·.setIfInBounds 0 (.ref hh.objs.size)))) (x := .exc c d fr) t hσ (Heap.SameBut.update ..) ho1 (NT.fields rfl)
    fun k => ⟨_, _, hu, by simpa using hw, fun q => by rw [Array.getElem?_setIfInBounds]; simpa using hf q⟩
  rw [upd_same hσ] at D'
  have fin : Post C g env ε ⟨hh, gs, dr, t, os⟩ Q .none ⟨(hh.push { cls := .type "tuple", data := .seq rest.toArray }).update e (Obj.mapFields (·.setIfInBounds 0 (.ref hh.objs.size))), gs, dr, t, os⟩ :=
    ⟨.none, σ, D', (TK.push _ _).trans k, rfl, h⟩
  split
  · exact wpAny_letGo (wpAny_pure fin)
  · exact wpAny_pure (wpAny_pure fin)
end
end Mine
end
section
open PySem PySem.W PyProof.Rows PySem.Calls PySem.Spec
open PySem.Builtin PySem.Builtin.ObjectAttr
set_option Elab.async false
set_option maxRecDepth 100000
set_option linter.unusedVariables false
set_option linter.unusedSectionVars false
namespace Mine
inductive ExcT : List Value → Prop
  | base : ExcT [.type "Exception", .type "BaseException", .type "object"]
  | up (c : Addr) (l : List Value) (h : ExcT l) : ExcT (.ref c :: l)
theorem ExcT.refuse (self : Value) {l : List Value} (h : ExcT l) : refuseLoop self "__setattr__" l = pure () := by
  induction h with
  | base => exact PySem.F.store_Exception.passes self
  | up c l h ih => rw [refuseLoop_ref]; exact ih
theorem ExcT.obj {l : List Value} (h : ExcT l) : l.contains (.type "object") = true := by
  induction h with
  | base => decide
  | up c l h ih => rw [List.contains_cons, ih, Bool.or_true]
theorem ExcT.ne {l : List Value} (h : ExcT l) : l.isEmpty = false := by cases h <;> rfl
def excOver (K : Frag) (C : Addr) : Prop := ∃ cd, clsIn K C = some cd ∧ ExcT cd.mro
section
variable {prog : Program} {w : World} {K : Frag} {s : Shared} {A : Around} {x c : Addr} {R : Result → Shared → Prop}
theorem osa_exc {ox : Obj} {od : Option Obj} {name : Str} {tk : Tok} {v : Value} {r : Option Value} (X : K.In s.heap) (I : InstAt s.heap x ox c od) (hp : excOver K c) (ht : takerIn K c name = some r)
    (h : ∀ b, wpAny (model prog w) A.in1 (match r with | some a => setByDescriptor a (.ref x) v | none => storeInOwnDict (.ref x) (.ref c) (.str name tk) name v b)
      (fun fin s' => match fin with | .done f => R (.ok f) s' | .again c' => c'.quiet = true ∧ codeAny (model prog w) A c' R s') (fun e s' => R (.error e) s') s) :
    codeAny (model prog w) A (.call (.builtin "object.__setattr__") ⟨[.ref x, .str name tk, v], []⟩) R s := by
  have SF := PySem.F.store_object
  obtain ⟨cd, hc, ho⟩ := hp
  have ne := ho.ne
  have sub : Looks (model prog w) s.heap (isInstance (.ref x) (.type "object")) true := I.type.andThen (looks_mroIn X (by unfold mroIn; rw [hc, Option.bind_some, if_neg (by rw [ne]; decide), ho.obj]))
  refine codeAny_call_builtin SF.slot.plain SF.entry (@check_slot (model prog w) _ _ s "object.__setattr__" "object" "__setattr__" (.ref x) [.str name tk, v] [] _ SF.kind SF.split sub (SF.args (.ref x) (.str name tk) v) ?_)
  obtain ⟨attr, ha, hr⟩ := Option.bind_eq_some_iff.mp ht
  have hm : Looks (model prog w) s.heap (mroOf (.ref c)) cd.mro := (looks_clsIn X hc).andThen .now
  have L3 : Looks (model prog w) s.heap (storeTaker? attr) r := by
    cases attr with
    | none => cases hr; exact .now
    | some a =>
      obtain ⟨b, hb, rfl⟩ := Option.map_eq_some_iff.mp hr
      refine (looks_takesIn X hb).andThen ?_
      cases b <;> exact .now
  rw [osa_eq, refuse_eq]
  refine wpAny_bind (wpAny_bind (I.type.here (wpAny_bind (hm.here ?_))))
  rw [ho.refuse]
  refine wpAny_pure (wpAny_bind (I.type.here (wpAny_bind ((looks_findIn X ha).here (wpAny_bind (L3.here ?_))))))
  exact h _
end
section
variable {C : Cx} {g : Gh} {σ σ' : Store} {s s' : Shared} {env : Env} {ε : Loc} {n : Nat} {A : Around} {Q : V → Store → Prop} {X : AX → Store → Prop} {QB : Bool → Store → Prop} {QS : Fl → Loc → Store → Prop}
theorem RNs.noRef {h : Heap} : ∀ {fs : List (Str × V)} {es : List DictEntry}, RNs h fs es → es.any (·.refKey) = false
  | [], es, r => by rw [show es = [] from r]; rfl
  | (k, y) :: fs, es, r => by obtain ⟨e, q, t, rfl, r0, _, r2⟩ := r; rw [List.any_cons, r2.noRef]; simp [DictEntry.refKey, r0]
theorem store_ns {d : Addr} {fs : List (Str × V)} {nm : Str} {y : V} {v : Value} {tk : Tok} {QF : Fin → Shared → Prop} {E : Value → Shared → Prop} (D : Hd C g env ε σ s) (hd : σ d = some (.ns fs)) (hr : RV s.heap y v) (hz : fs.length < 900)
    (h : ∀ h' tk, Hd C g env ε (upd σ d (.ns (putA nm y fs))) { s with heap := h', toks := tk } → TK s.heap h' → QF (.done (.ret .none)) { s with heap := h', toks := tk }) : wpAny C.M A (storeInDict d (.str nm tk) nm v) QF E s := by
  obtain ⟨es, m, ho, rn⟩ := D.S.sim d _ hd
  unfold storeInDict newKeyGuard
  refine wpAny_bind (wpAny_pure (wpAny_bind ?_))
  unfold nsSet
  refine wpAny_bind (wpAny_bind (wpAny_askSetting (wpAny_pure (wpAny_bind (wpAny_mkText (wpAny_bind (wpAny_loadPart ho ?_)))))))
  have c0 : (!(es.toArray.any (·.key.isStr nm)) && es.toArray.any (·.refKey)) = false := by
    rw [List.any_toArray, List.any_toArray, rn.noRef, Bool.and_false]
  dsimp only
  rw [aRefKeyMayBeTheName_at, c0]
  refine wpAny_updatePart ho ?_
  have hf : (Obj.putName nm (PyData.keyHash C.w.params nm) (.str nm s.toks) v (dictOf es m)) = dictOf (putL nm (PyData.keyHash C.w.params nm) (.str nm s.toks) v es) (putN nm es m) := putName_dict ..
  have hu := Heap.get?_update_self (h := s.heap) (Obj.putName nm (PyData.keyHash C.w.params nm) (.str nm s.toks) v) ho (by rw [hf]; rfl)
  have rp : RNs s.heap (putA nm y fs) (putL nm (PyData.keyHash C.w.params nm) (.str nm s.toks) v es) := RNs.put hr rn
  have hlen := putA_length nm y fs
  have hl2 := rp.length
  rw [hf] at hu
  refine wpAny_bind (wpAny_lookBehind hu (pastItsLine_dict (by rw [List.size_toArray, sizeLine_eq]; omega)) ?_)
  obtain ⟨D', k⟩ := D.set (h' := s.heap.update d _) (x := .ns (putA nm y fs)) (s.toks + 1) hd (Heap.SameBut.update ..) ho (NT.dict rfl) fun k => ⟨_, _, hu, rp.mono k⟩
  exact wpAny_pure (h _ _ D' k)
def SA (C : Cx) (n : Nat) (env : Env) (ε : Loc) (nm : Str) (o : V) (y : V) (σ : Store) (QS : Fl → Loc → Store → Prop) (X : AX → Store → Prop) : Prop :=
  ∀ A g s w v, AOk C n g (some env) A → Hd C g env ε σ s → RV s.heap o w → RV s.heap y v → wpAny C.M A (setAttr w nm v) (fun _ s' => PostS C g env s QS .next s') (PostX C g env s X) s
abbrev Qsa2 (C : Cx) (n : Nat) (env : Env) (ε : Loc) (nm : Str) (y : V) (QS : Fl → Loc → Store → Prop) (X : AX → Store → Prop) : V → Store → Prop := fun ov σ₂ => SA C n env ε nm ov y σ₂ QS X
abbrev Qsa1 (C : Cx) (n : Nat) (env : Env) (ε : Loc) (o : Expr) (nm : Str) (QS : Fl → Loc → Store → Prop) (X : AX → Store → Prop) : V → Store → Prop := fun y σ₁ => EV C n env ε o σ₁ (Qsa2 C n env ε nm y QS X) X
theorem TS_SetAttrG {o e : Expr} {nm : Str} {p' pos : Pos} (h : EV C n env ε e σ (Qsa1 C n env ε o nm QS X) X)
    (hs : swapsWith e (some (.Attribute o nm p')) pos.line env = pure false := by rfl) : TS C n env ε (exec (.Assign [.Attribute o nm p'] e pos) env) σ QS X := fun A g s a D =>
  plainObj_wpAny_Assign_Attribute (h.use a D (fun v y σ₁ s₁ D₁ k₁ r₁ h₁ => h₁.use a D₁ (fun w z σ₂ s₂ D₂ k₂ r₂ q => by
    exact wpAny_mono (q A g s₂ w v a D₂ r₂ (RV.mono k₂ _ _ r₁)) (fun _ _ z => z.trans (k₁.trans k₂)) fun _ _ z => z.trans (k₁.trans k₂)) fun _ _ z => z.trans k₁) fun _ _ z => z) hs
theorem exc_at {D : Prop} (S : St C g σ s) {x c : Addr} {d : Option Addr} {fr : Bool} (hx : σ x = some (.exc c d fr)) (hd : ∀ a, d = some a → ∃ fs, σ a = some (.ns fs)) : ∃ ox od, InstAt s.heap x ox c od ∧ s.heap.get? x = some ox ∧ (∃ vs sl, ox = { cls := .ref c, dict := d, data := .fields vs, slots := sl } ∧ 1 < vs.size ∧ (fr = true → vs[1]? = some .none)) ∧
    (match d with | none => od = none | some a => ∃ es m, od = some (dictOf es m)) := by
  obtain ⟨vs, sl, ho, hw⟩ := S.sim x _ hx
  cases d with
  | none => exact ⟨_, none, ⟨ho, rfl, rfl, trivial⟩, ho, ⟨vs, sl, rfl, hw⟩, rfl⟩
  | some a =>
    obtain ⟨fs, hf⟩ := hd a rfl
    obtain ⟨es, m, e, r⟩ := S.sim a _ hf
    exact ⟨_, some (dictOf es m), ⟨ho, rfl, rfl, e⟩, ho, ⟨vs, sl, rfl, hw⟩, es, m, rfl⟩
theorem SA_exc1 (O : C.Ok) {x c d : Addr} {fr : Bool} {fs : List (Str × V)} {nm : Str} {y : V} (hx : σ x = some (.exc c (some d) fr)) (hd : σ d = some (.ns fs)) (hz : fs.length < 900)
    (h1 : findIn C.K (.ref c) "__setattr__" = some (some (.builtin "object.__setattr__"))) (h2 : excOver C.K c) (h3 : takerIn C.K c nm = some none) (h4 : hasDictIn C.K c = true)
    (h : QS .next ε (upd σ d (.ns (putA nm y fs)))) : SA C n env ε nm (.obj x) y σ QS X := fun A g s w v a D rw rv => by
  rw [show w = _ from rw]
  obtain ⟨ox, od, I, ho, ⟨vs, sl, rfl, _⟩, _⟩ := exc_at (D := True) D.S hx fun a e => by cases e; exact ⟨_, hd⟩
  have XK := D.S.K O
  refine set_plain XK I h1 ?_
  have D1 := D.tk (s.toks + 1)
  refine osa_exc (s := { s with toks := s.toks + 1 }) XK I h2 h3 fun b => ?_
  obtain ⟨cd, hc, hd'⟩ := any_some h4
  refine wpAny_bind (wpAny_pure (wpAny_bind (wpAny_bind (wpAny_loadPart I.at_ (wpAny_bind (Looks.here (s := { s with toks := s.toks + 1 }) (looks_clsIn XK hc) ?_))))))
  rw [hd']
  refine wpAny_pure (a := some d) ?_
  exact store_ns (s := { s with toks := s.toks + 1 }) D1 hd rv hz fun h' tk D' k => ⟨.next, ε, _, D', k, rfl, h⟩
theorem SA_exc0 (O : C.Ok) {x c : Addr} {fr : Bool} {nm : Str} {y : V} (hx : σ x = some (.exc c none fr))
    (h1 : findIn C.K (.ref c) "__setattr__" = some (some (.builtin "object.__setattr__"))) (h2 : excOver C.K c) (h3 : takerIn C.K c nm = some none) (h4 : hasDictIn C.K c = true)
    (h : ∀ d, d ≠ x → σ d = none → QS .next ε (upd (upd σ x (.exc c (some d) fr)) d (.ns [(nm, y)]))) : SA C n env ε nm (.obj x) y σ QS X := fun A g s w v a D rw rv => by
  rw [show w = _ from rw]
  obtain ⟨ox, od, I, ho, ⟨vs, sl, rfl, hw⟩, _⟩ := exc_at (D := True) D.S hx fun a e => by cases e
  have XK := D.S.K O
  refine set_plain XK I h1 ?_
  have D1 := D.tk (s.toks + 1)
  refine osa_exc (s := { s with toks := s.toks + 1 }) XK I h2 h3 fun b => ?_
  obtain ⟨cd, hc, hd'⟩ := any_some h4
  refine wpAny_bind (wpAny_pure (wpAny_bind (wpAny_bind (wpAny_loadPart I.at_ (wpAny_bind (Looks.here (s := { s with toks := s.toks + 1 }) (looks_clsIn XK hc) ?_))))))
  rw [hd']
  dsimp only
  rw [if_neg (by decide)]
  rw [if_neg (by simp [typeHasDict])]
  have ho1 := Heap.get?_push_of_some (h := s.heap) { cls := .type "dict", data := .dict #[] } ho
  have f0 := D.fresh (a := s.heap.objs.size) (Nat.le_refl _)
  have D2 := D1.push { cls := .type "dict", data := .dict #[] } (s.toks + 1)
  have hne : s.heap.objs.size ≠ x := Nat.ne_of_gt (Heap.lt_size ho)
  have hu := Heap.get?_update_self (h := s.heap.push { cls := .type "dict", data := .dict #[] }) (fun o => { o with dict := some s.heap.objs.size }) ho1 rfl
  obtain ⟨D3, k3⟩ := D2.set (h' := (s.heap.push { cls := .type "dict", data := .dict #[] }).update x (fun o => { o with dict := some s.heap.objs.size })) (x := .exc c (some s.heap.objs.size) fr) (s.toks + 1) hx (Heap.SameBut.update ..) ho1 (NT.fields rfl)
    fun k => ⟨vs, sl, hu, hw⟩
  have hgd : ((s.heap.push { cls := .type "dict", data := .dict #[] }).update x (fun o => { o with dict := some s.heap.objs.size })).get? s.heap.objs.size = some { cls := .type "dict", data := .dict #[] } :=
    (Heap.get?_update_ne _ _ _ _ hne).trans (Heap.get?_push_size _ rfl)
  have D4 := D3.add (a := s.heap.objs.size) (o := .ns []) f0.2.1 f0.2.2.1 f0.2.2.2 ⟨[], 0, hgd, rfl⟩
  refine wpAny_bind (wpAny_alloc' ?_)
  refine wpAny_bind (wpAny_update' ho1 ?_)
  refine wpAny_pure ?_
  refine wpAny_mono (Q := fun fin s' => fin = .done (.ret .none) ∧ ∃ h' tk, s' = { s with heap := h', toks := tk } ∧ Hd C g env ε (upd (upd σ x (.exc c (some s.heap.objs.size) fr)) s.heap.objs.size (.ns [(nm, y)])) { s with heap := h', toks := tk } ∧ TK s.heap h') (E := fun _ _ => False) ?_ (fun fin s' z => ?_) fun _ _ z => z.elim
  · refine store_ns (s := { s with heap := (s.heap.push { cls := .type "dict", data := .dict #[] }).update x (fun o => { o with dict := some s.heap.objs.size }), toks := s.toks + 1 }) D4 (upd_self _ _ _) (RV.mono ((TK.push _ _).trans k3) _ _ rv) (by simp) fun h' tk D' k => ⟨rfl, h', tk, rfl, ?_, ((TK.push _ _).trans k3).trans k⟩
    have : upd (upd (upd σ x (.exc c (some s.heap.objs.size) fr)) s.heap.objs.size (.ns [])) s.heap.objs.size (.ns (putA nm y [])) = upd (upd σ x (.exc c (some s.heap.objs.size) fr)) s.heap.objs.size (.ns [(nm, y)]) := by
      funext b; by_cases hb : b = s.heap.objs.size <;> simp [upd, hb, putA]
    rw [← this]; exact D'
  · obtain ⟨rfl, h', tk, rfl, D', k⟩ := z
    exact ⟨.next, ε, _, D', k, rfl, h _ hne f0.1⟩
end
end Mine
end
section
open PySem PySem.W PyProof.Rows PySem.Calls PySem.Spec
set_option Elab.async false
set_option maxRecDepth 100000
set_option linter.unusedVariables false
set_option linter.unusedSectionVars false
namespace Mine
section
variable {C : Cx} {g : Gh} {σ σ' : Store} {s s' : Shared} {env : Env} {ε : Loc} {n : Nat} {A : Around} {Q : V → Store → Prop} {X : AX → Store → Prop} {QB : Bool → Store → Prop} {QS : Fl → Loc → Store → Prop}
theorem Hd.drop (D : Hd C g env ε σ s) (a : Addr) : Hd C g env ε (Mine.drop σ a) s := D.weaken fun b o e => by
  by_cases hb : b = a
  · subst hb; simp [Mine.drop] at e
  · rw [drop_ne _ hb] at e; exact e
theorem TS_Raise (O : C.Ok) {e : Expr} {pos : Pos} (h : EV C (n + 1) env ε e σ (fun x σ₁ => ∃ a c d, x = .obj a ∧ σ₁ a = some (.exc c (some d) true) ∧ ExcIn C.K c ∧ X ⟨c, d⟩ (drop σ₁ a)) X) :
    TS C (n + 1) env ε (exec (.Raise (some e) none pos) env) σ QS X := fun A g s a D => by
  show wpAny C.M A (do standAt pos; raiseStmt env (some (do let v ← eval e env; standAt pos; pure v)) none) _ _ s
  refine wpAny_bind (wpAny_standAt ?_)
  unfold raiseStmt
  dsimp only
  refine wpAny_bind (wpAny_bind (h.use a D (fun v x σ₁ s₁ D₁ k₁ r₁ h₁ => wpAny_bind (wpAny_standAt (wpAny_pure ?_))) fun _ _ z => z))
  obtain ⟨x, c, d, rfl, hx, hE, q⟩ := h₁
  rw [show v = _ from r₁]
  obtain ⟨nm, qn, N, bs, bm, hdct, sn, sub, ab, col, dd, k0, k1, k2, k3, k5, e0, e1, e2, e3, e4⟩ := hE
  have hC := D₁.S.K O _ _ e0
  obtain ⟨vs, sl, ho, hw, hf⟩ := D₁.S.sim x _ hx
  have hcB : (Value.ref c :: bm).contains (.type "BaseException") = true := by rw [List.contains_cons, e4, Bool.or_true]
  have hnt : ∀ {Q' : Bool → Shared → Prop}, Q' false s₁ → wpAny C.M A (isType (.ref x)) Q' (PostX C g env s X) s₁ := by
    intro Q' hq
    simp only [isType, loadHead]
    refine wpAny_bind (wpAny_loadPart ho ?_)
    exact wpAny_pure hq
  have hty : ∀ {Q' : Value → Shared → Prop}, Q' (.ref c) s₁ → wpAny C.M A (typeOf (.ref x)) Q' (PostX C g env s X) s₁ := by
    intro Q' hq
    exact wpAny_bind (wpAny_loadPart ho (wpAny_pure hq))
  obtain ⟨hh, gs, dr, t, os⟩ := s₁
  refine wpAny_bind (wpAny_pure ?_)
  dsimp only
  refine wpAny_bind (wpAny_holding ?_)
  unfold excFromValue isExcClass
  refine wpAny_bind (wpAny_bind (hnt ?_))
  simp only [Bool.false_eq_true, if_false]
  refine wpAny_pure ?_
  simp only [Bool.false_eq_true, if_false]
  refine wpAny_bind ?_
  unfold isInstance
  refine wpAny_bind (hty (wpAny_isSubtype_exc hC ?_))
  rw [hcB]
  simp only [if_true]
  refine wpAny_pure ?_
  refine wpAny_bind (hnt ?_)
  simp only [Bool.false_eq_true, if_false]
  unfold raisedInstance
  refine wpAny_bind (wpAny_bind (hty (wpAny_bind ?_)))
  refine wpAny_bind (wpAny_loadPart hC (wpAny_pure ?_))
  rw [if_pos (by rfl)]
  refine wpAny_pure ?_
  unfold setFlight
  refine wpAny_bind (wpAny_bind (wpAny_field ho rfl (hf rfl) ?_))
  rw [if_neg (by decide)]
  refine wpAny_pure (wpAny_raiseNew_none a.hn ?_)
  have hg := D₁.S.gσ x (by rw [hx]; exact nofun)
  have hH := D₁.S.hσ x (by rw [hx]; exact nofun)
  refine ⟨⟨c, d⟩, drop σ₁ x, ε, false, D₁.drop x, k₁, ⟨x, _, vs, rfl, hH, by simp [drop], hg, fun z => ?_, ho, rfl, rfl, rfl, hw, .inl ⟨rfl, hf rfl⟩⟩, q⟩
  have := D₁.F.σL
  rw [Option.some.inj z, hx] at this; cases this
end
end Mine
end
section
open PySem PySem.W PyProof.Rows PySem.Calls PySem.Spec
set_option Elab.async false
set_option maxRecDepth 100000
set_option linter.unusedVariables false
set_option linter.unusedSectionVars false
namespace Mine
section
variable {C : Cx} {g : Gh} {σ σ' : Store} {s s' : Shared} {env : Env} {ε : Loc} {n : Nat} {A : Around} {Q : V → Store → Prop} {X X₀ : AX → Store → Prop} {QB : Bool → Store → Prop} {QS : Fl → Loc → Store → Prop}
theorem AOk.mark {L : Option Env} {e : Value} (a : AOk C n g L A) : AOk C 0 g L (A.mark (some e)) :=
  ⟨.inr rfl, by have := a.depth; show A.depth + _ < _; omega, by have := a.units; show A.units + _ < _; omega, a.frames⟩
theorem PostX.none_ {e : Value} {s₀ s₁ : Shared} (h : PostX C g env s₀ (fun _ _ => False) e s₁) : False := let ⟨_, _, _, _, _, _, _, q⟩ := h; q
inductive RXt (C : Cx) (g : Gh) (env : Env) (ε : Loc) (σ : Store) (s : Shared) (x : AX) (e : Value) : Prop
  | mk (a T : Addr) (vs : Array Value) (oe oT : Obj) (ts : Array Value) (e0 : e = .ref a) (e1 : oe = ({ cls := .ref x.C, dict := some x.d, data := .fields vs, slots := oe.slots } : Obj)) (e2 : 1 < vs.size) (e3 : T ≠ a) (e4 : oT.cls = .type "traceback") (e5 : oT.data = .fields ts) (e6 : 3 < ts.size) (e7 : vs[1]? = some (.ref T))
      (e8 : Hd C g env ε (upd (upd σ a (.raw oe)) T (.raw oT)) s) (e9 : σ a = none) (e10 : σ T = none) (e11 : g a = none) (e12 : C.H.get? a = none) (e13 : C.H.get? T = none) (e14 : a ≠ env.locals) (e15 : T ≠ env.locals)
theorem RX.tell {x : AX} {e : Value} (D : Hd C g env ε σ s) (r : RX C g σ s.heap (some env.locals) e x true) : RXt C g env ε σ s x e := by
  obtain ⟨a, oe, vs, rfl, hH, hσ, hg, hL, ho, hc, hdi, hd, hsz, tb⟩ := r.ex
  rcases tb with ⟨q, _⟩ | ⟨T, oT, ts, h1, t2, t3, t4, t5, t6, t7, t8, t9⟩
  · cases q
  · have gT := g_none_of D.S t6 t8 t7
    have La : a ≠ env.locals := fun q => hL (by rw [q])
    have LT : T ≠ env.locals := fun q => t5 (by rw [q])
    have D1 := D.add (a := a) (o := .raw oe) hg hH La ho
    have D2 := D1.add (a := T) (o := .raw oT) gT t3 LT t6
    refine ⟨a, T, vs, oe, oT, ts, rfl, ?_, hsz, t2, t7, t8, t9, h1, D2, hσ, t4, hg, hH, t3, La, LT⟩
    obtain ⟨c, d, dt, sl⟩ := oe
    cases hc; cases hdi; cases hd; rfl
theorem RX.untell {a T : Addr} {vs ts : Array Value} {oe oT : Obj} {x : AX} (D : Hd C g env ε (upd (upd σ a (.raw oe)) T (.raw oT)) s) (h0 : oe = ({ cls := .ref x.C, dict := some x.d, data := .fields vs, slots := oe.slots } : Obj)) (h1 : 1 < vs.size) (h2 : T ≠ a)
    (h3 : oT.cls = .type "traceback") (h4 : oT.data = .fields ts) (h5 : 3 < ts.size) (h6 : vs[1]? = some (.ref T)) (ha : σ a = none) (hT : σ T = none) (hg : g a = none) (ha' : C.H.get? a = none) (hT' : C.H.get? T = none) (La : a ≠ env.locals) (LT : T ≠ env.locals) :
    Hd C g env ε σ s ∧ RX C g σ s.heap (some env.locals) (.ref a) x true := by
  have e1 : s.heap.get? T = some oT := D.S.sim T (.raw oT) (upd_self _ _ _)
  have e2 : s.heap.get? a = some oe := D.S.sim a (.raw oe) (by rw [upd_ne _ _ (Ne.symm h2), upd_self])
  refine ⟨D.weaken fun b o e => ?_, ⟨a, oe, vs, rfl, ha', ha, hg, fun q => La (Option.some.inj q).symm, e2, by rw [h0], by rw [h0], by rw [h0], h1, .inr ⟨T, oT, ts, h6, h2, hT', hT, fun q => LT (Option.some.inj q).symm, e1, h3, h4, h5⟩⟩⟩
  have b1 : b ≠ T := fun q => by rw [q, hT] at e; cases e
  have b2 : b ≠ a := fun q => by rw [q, ha] at e; cases e
  rw [upd_ne _ _ b1, upd_ne _ _ b2]; exact e
theorem TS_Try (O : C.Ok) {c : Addr} {body suite : List Stmt} {b₀ : Stmt} {t : Expr} {hpos pos : Pos} (hf : env.frame = some env.locals) (hE : ExcIn C.K c)
    (h : TS C n env ε (execs body env) σ QS X₀) (ht : ∀ ε σ, EV C 0 env ε t σ (fun v σ₂ => v = .raw (.ref c) ∧ σ₂ = σ) (fun _ _ => False))
    (hc : ∀ ax σ', X₀ ax σ' → ax.C = c) (hb : ∀ ε ax σ', X₀ ax σ' → TS C 0 env ε (execs (b₀ :: suite) env) σ' QS (fun _ _ => False)) :
    TS C n env ε (exec (.Try body [.ExceptHandler (some t) none (b₀ :: suite) hpos] [] [] pos) env) σ QS X := fun A g s a D => by
  refine wpAny_Try_except (h.use a D (fun f x ε₁ σ₁ s₁ D₁ k₁ rf q => ?_) fun e s₁ z => ?_)
  · cases x with
    | next => rw [show f = _ from rf]; exact wpAny_execs_nil ⟨.next, ε₁, σ₁, D₁, k₁, rfl, q⟩
    | brk => rw [show f = _ from rf]; exact ⟨.brk, ε₁, σ₁, D₁, k₁, rfl, q⟩
    | cont => rw [show f = _ from rf]; exact ⟨.cont, ε₁, σ₁, D₁, k₁, rfl, q⟩
    | ret y => obtain ⟨v, rfl, rv⟩ := rf; exact ⟨.ret y, ε₁, σ₁, D₁, k₁, ⟨v, rfl, rv⟩, q⟩
  obtain ⟨ax, σ₁, ε₁, b, D₁, k₁, rx, q⟩ := z
  refine note_rx a D₁ hf rx fun h₂ D₂ k₂ rx₂ => flight_rx D₂ rx₂ fun h₃ D₃ k₃ rx₃ => ?_
  obtain ⟨x, T, vs, oe, oT, ts, rfl, u0, u1, u2, u3, u4, u5, u6, D₄, v1, v2, v3, v4, v5, v6, v7⟩ := rx₃.tell D₃
  have hcc := hc _ _ q
  have am : AOk C 0 g (some env) (A.mark (some (.ref x))) := a.mark
  refine wpAny_handleBy_cons (codeAny_handlers_test ((ht ε₁ _).use am D₄ (fun w y σ₅ s₅ D₅ k₅ r₅ ⟨y1, y2⟩ => ?_) fun _ _ z => z.none_.elim)) (by intro q; cases q)
  subst y1 y2
  rw [show w = _ from r₅]
  obtain ⟨D₆, rx₆⟩ := RX.untell D₅ u0 u1 u2 u3 u4 u5 u6 v1 v2 v3 v4 v5 v6 v7
  obtain ⟨nm, qn, N, bs, bm, hdct, sn, sub, ab, col, dd, w0, w1, w2, w3, w5, e0, e1, e2, e3, e4⟩ := hE
  have hC := D₆.S.K O _ _ e0
  have he : s₅.heap.get? x = some oe := D₅.S.sim x (.raw oe) (by rw [upd_ne _ _ (Ne.symm u2), upd_self])
  have hcl : oe.cls = .ref c := by rw [u0, ← hcc]
  obtain ⟨hh, gs, dr, tt, os⟩ := s₅
  refine wpAny_excMatches_sub_self hC he hcl e4 ?_
  rw [if_pos rfl]
  have k5 : TK s.heap hh := ((k₁.trans k₂).trans k₃).trans k₅
  refine codeAny_handlers_suite (flight_rx D₆ rx₆ fun h₇ D₇ k₇ rx₇ => ?_)
  exact (hb ε₁ ax σ₁ q).use am D₇ (fun f y ε₈ σ₈ s₈ D₈ k₈ rf q => ⟨y, ε₈, σ₈, D₈, (k5.trans k₇).trans k₈, rf, q⟩) fun _ _ z => z.none_.elim
end
end Mine
end
section
open PySem PySem.W PyProof.Rows PySem.Calls PySem.Spec
open PySem.Builtin PySem.Builtin.ObjectAttr
set_option Elab.async false
set_option maxRecDepth 100000
set_option linter.unusedVariables false
set_option linter.unusedSectionVars false
namespace Mine
section
variable {C : Cx} {g : Gh} {σ σ' : Store} {s s' : Shared} {env : Env} {ε : Loc} {n : Nat} {A : Around} {Q : V → Store → Prop} {X X₀ : AX → Store → Prop} {QB : Bool → Store → Prop} {QS : Fl → Loc → Store → Prop}
end
end Mine
end
section
open PySem PySem.W PyProof.Rows PySem.Calls PySem.Spec
set_option Elab.async false
set_option maxRecDepth 100000
set_option linter.unusedVariables false
set_option linter.unusedSectionVars false
namespace Mine
def TAL (C : Cx) (n : Nat) (env : Env) (QA : Loc → Store → Prop) (X : AX → Store → Prop) : List (Value → Sem Unit) → List V → Loc → Store → Prop
  | t :: ts, x :: xs, ε, σ => TA C n env ε t x σ (fun ε₁ σ₁ => TAL C n env QA X ts xs ε₁ σ₁) X
  | _, _, ε, σ => QA ε σ
section
variable {C : Cx} {g : Gh} {σ σ' : Store} {s s' : Shared} {env : Env} {ε : Loc} {n : Nat} {A : Around} {Q : V → Store → Prop} {X X₀ : AX → Store → Prop} {QB : Bool → Store → Prop} {QS : Fl → Loc → Store → Prop} {QA : Loc → Store → Prop}
theorem run_TAL (a : AOk C n g (some env) A) : ∀ {ts : List (Value → Sem Unit)} {xs : List V} {ε : Loc} {σ : Store} {s : Shared} {vs : List Value}, TAL C n env QA X ts xs ε σ → Hd C g env ε σ s → RVs s.heap xs vs →
    wpAny C.M A (assignInOrder ts vs) (fun _ s' => PostA C g env s QA s') (PostX C g env s X) s
  | [], xs, ε, σ, s, vs, h, D, r => by
    cases xs <;> exact assignInOrder_nil ⟨ε, σ, D, TK.refl _, h⟩
  | t :: ts, [], ε, σ, s, vs, h, D, r => by
    rw [show vs = [] from r]
    exact wpAny_pure ⟨ε, σ, D, TK.refl _, h⟩
  | t :: ts, x :: xs, ε, σ, s, vs, h, D, r => by
    obtain ⟨v, vs, rfl, r1, r2⟩ := r
    refine assignInOrder_cons (wpAny_mono (h A g s v a D r1) (fun _ s₁ ⟨ε₁, σ₁, D₁, k₁, h₁⟩ => ?_) fun _ _ z => z)
    exact wpAny_mono (run_TAL a h₁ D₁ (RVs.mono k₁ _ _ r2)) (fun _ s₂ ⟨ε₂, σ₂, D₂, k₂, q⟩ => ⟨ε₂, σ₂, D₂, k₁.trans k₂, q⟩) fun _ _ z => z.trans k₁
theorem Hd.ext_new (D : Hd C g env ε σ s) {h' : Heap} (k : Heap.ExtBut s.heap.objs.size s.heap h') : Hd C g env ε σ { s with heap := h' } ∧ TK s.heap h' := by
  have kk : ∀ b o, s.heap.get? b = some o → h'.get? b = some o := fun b o e => k b o (Nat.ne_of_lt (Heap.lt_size e)) e
  exact ⟨⟨D.S.grow s.toks kk, D.F.keeps (h' := h') (fun o e => kk _ _ e) (TK.of_keeps kk) rfl D.F.σL⟩, TK.of_keeps kk⟩
theorem TA_Tuple {elts : List Expr} {k} {pos : Pos} {xs : List V} (hn : (assignEach elts env).length = xs.length) (hstar : (assignEach elts env).findIdx? (·.1) = none)
    (h : TAL C (n + 1) env QA X ((assignEach elts env).map (·.2)) xs ε σ) : TA C (n + 1) env ε (assign (.Tuple elts k pos) env) (.tup xs) σ QA X := fun A g s v a D r => by
  obtain ⟨t, vs, rfl, ht, rv⟩ := r
  refine assign_Tuple_tuple a.hn ht (by rw [hn, List.size_toArray, rv.length]) hstar fun h' he => ?_
  obtain ⟨D', k⟩ := D.ext_new he
  exact wpAny_mono (run_TAL a h D' (RVs.mono k _ _ rv)) (fun _ s₂ ⟨ε₂, σ₂, D₂, k₂, q⟩ => ⟨ε₂, σ₂, D₂, k.trans k₂, q⟩) fun _ _ z => z.trans k
theorem TS_AssignTuple {elts : List Expr} {k} {tpos pos : Pos} {value : Expr} (h : EV C n env ε value σ (fun y σ₁ => TA C n env ε (assign (.Tuple elts k tpos) env) y σ₁ (fun ε₂ σ₂ => QS .next ε₂ σ₂) X) X)
    (hs : swapsWithSole [.Tuple elts k tpos] value pos.line env = pure false := by rfl)
    (hw : swappedStores [.Tuple elts k tpos] value env = pure none := by rfl) : TS C n env ε (exec (.Assign [.Tuple elts k tpos] value pos) env) σ QS X := fun A g s a D =>
  Assign_Tuple (h.use a D (fun v x σ₁ s₁ D₁ k₁ r₁ h₁ => wpAny_mono (h₁ A g s₁ v a D₁ r₁) (fun _ s₂ ⟨ε₂, σ₂, D₂, k₂, q⟩ => ⟨.next, ε₂, σ₂, D₂, k₁.trans k₂, rfl, q⟩) fun _ _ z => z.trans k₁) fun _ _ z => z) hs hw
theorem TA_bind {x : Str} {y : V} (h : SN C n env ε x y σ (Qta QA) X) : TA C n env ε (bindName env x) y σ QA X := fun A g s v a D r =>
  bindName_ (TA_store h A g s v a D r)
theorem RVs.reverse {h : Heap} : ∀ {xs : List V} {vs : List Value}, RVs h xs vs → RVs h xs.reverse vs.reverse
  | [], _, r => by rw [show _ = [] from r]; rfl
  | x :: xs, _, r => by
    obtain ⟨v, vs, rfl, r1, r2⟩ := r
    rw [List.reverse_cons, List.reverse_cons]
    exact r2.reverse.append (RVs.one r1)
abbrev Qnx (QS : Fl → Loc → Store → Prop) : Loc → Store → Prop := fun ε₂ σ₂ => QS .next ε₂ σ₂
abbrev Qsw (C : Cx) (n : Nat) (env : Env) (ε : Loc) (names : List Str) (QS : Fl → Loc → Store → Prop) (X : AX → Store → Prop) : V → Store → Prop := fun y σ₁ => ∃ xs, y = .tup xs ∧ xs.length = names.length ∧ TAL C (n + 1) env (Qnx QS) X (names.reverse.map fun n => bindName env n) xs.reverse ε σ₁
theorem TS_AssignSwap {elts : List Expr} {k} {tpos pos : Pos} {value : Expr} {names : List Str} (h : EV C (n + 1) env ε value σ (Qsw C n env ε names QS X) X)
    (hs : swapsWithSole [.Tuple elts k tpos] value pos.line env = pure false := by rfl)
    (hw : swappedStores [.Tuple elts k tpos] value env = pure (some names) := by rfl) : TS C (n + 1) env ε (exec (.Assign [.Tuple elts k tpos] value pos) env) σ QS X := fun A g s a D =>
  Assign_Tuple_swapped (h.use a D (fun v x σ₁ s₁ D₁ k₁ r₁ ⟨xs, e, hl, h₁⟩ => by
    subst e
    obtain ⟨t, vs, rfl, ht, rv⟩ := r₁
    have hn : names.length = vs.toArray.size := by rw [List.size_toArray, rv.length, hl]
    rw [hn]
    refine unpackItems_tuple a.hn ht fun h' he => ?_
    obtain ⟨D', k⟩ := D₁.ext_new he
    exact wpAny_mono (run_TAL a h₁ D' (RVs.mono k _ _ rv).reverse) (fun _ s₂ ⟨ε₂, σ₂, D₂, k₂, q⟩ => ⟨.next, ε₂, σ₂, D₂, (k₁.trans k).trans k₂, rfl, q⟩) fun _ _ z => z.trans (k₁.trans k)) fun _ _ z => z) hs hw
end
end Mine
end
section
open PySem PySem.W PyProof.Rows PySem.Calls PySem.Spec
open PySem.Builtin
set_option Elab.async false
set_option maxRecDepth 100000
set_option linter.unusedVariables false
set_option linter.unusedSectionVars false
namespace Mine
section
variable {C : Cx} {g : Gh} {σ σ' : Store} {s s' : Shared} {env : Env} {ε : Loc} {n : Nat} {A : Around} {Q : V → Store → Prop} {X X₀ : AX → Store → Prop} {QB : Bool → Store → Prop} {QS : Fl → Loc → Store → Prop} {QA : Loc → Store → Prop}
theorem TS_While {test : Expr} {body : List Stmt} {pos : Pos} (I : Nat → Loc → Store → Prop) (hf : env.frame = some env.locals)
    (h : ∀ k ε σ, I k ε σ → TT C n env ε (isTrue test env (eval test env)) σ (fun b σ₁ => if b then TS C n env ε (execs body env) σ₁ (fun fl ε₂ σ₂ => match fl with
      | .next => ∃ m, m < k ∧ I m ε₂ σ₂
      | .cont => ∃ m, m < k ∧ I m ε₂ σ₂
      | .brk => QS .next ε₂ σ₂
      | .ret v => QS (.ret v) ε₂ σ₂) X else QS .next ε σ₁) X) (k : Nat) (h0 : I k ε σ) :
    TS C n env ε (exec (.While test body [] pos) env) σ QS X := fun A g s a D => by
  have fin : ∀ e s', PostX C g env s X e s' → notedBy C.M A env (fun e s' => cameBackBy C.M A env (PostX C g env s X) e s') e s' := fun e s' z =>
    noted_rx a hf z fun s'' z' ⟨ax, σ', ε', D', k', rx, q⟩ => cameBack_rx D' k' rx q fun _ z => z
  refine wpAny_While (codeAny_whileLoop (fun k s₁ => ∃ ε₁ σ₁, Hd C g env ε₁ σ₁ s₁ ∧ TK s.heap s₁.heap ∧ I k ε₁ σ₁) ?_ k ⟨ε, σ, D, TK.refl _, h0⟩)
  rintro k s₁ ⟨ε₁, σ₁, D₁, k₁, hi⟩
  refine wpAny_mono (h k ε₁ σ₁ hi A g s₁ a D₁) (fun b s₂ ⟨σ₂, D₂, k₂, q⟩ => ?_) fun e s' z => fin e s' (z.trans k₁)
  cases b with
  | false => exact wpAny_execs_nil ⟨.next, ε₁, σ₂, D₂, k₁.trans k₂, rfl, q⟩
  | true =>
    refine wpAny_mono (q A g s₂ a D₂) (fun f s₃ ⟨fl, ε₃, σ₃, D₃, k₃, rf, q₃⟩ => ?_) fun e s' z => fin e s' (z.trans (k₁.trans k₂))
    have kk := (k₁.trans k₂).trans k₃
    cases fl with
    | next => rw [show f = _ from rf]; obtain ⟨m, hm, hi'⟩ := q₃; exact ⟨m, hm, ε₃, σ₃, D₃, kk, hi'⟩
    | cont => rw [show f = _ from rf]; obtain ⟨m, hm, hi'⟩ := q₃; exact ⟨m, hm, ε₃, σ₃, D₃, kk, hi'⟩
    | brk => rw [show f = _ from rf]; exact ⟨.next, ε₃, σ₃, D₃, kk, rfl, q₃⟩
    | ret y => obtain ⟨v, rfl, rv⟩ := rf; exact ⟨.ret y, ε₃, σ₃, D₃, kk, ⟨v, rfl, rv⟩, q₃⟩
theorem test_last' {M : Model} {A : Around} {E : Value → Shared → Prop} {s : Shared} {pos : Pos} {a : Value} {op : CmpOp} {r : Sem Value} {Q : Bool → Shared → Prop}
    (h : wpAny M A r (fun b s₁ => wpAny M A (compareOp op a b) (fun c s₂ => wpAny M A (truthy c) Q E s₂) E s₁) E s) : wpAny M A (testChain pos a [op] [r]) Q E s := by
  first
    | exact test_last h
    | exact PyProof.Rows.test_last h
theorem TT_Chain {l r₁ r₂ : Expr} {op₁ op₂ : CmpOp} {pos : Pos} {w : Sem Value} (h : EV C n env ε l σ (fun x σ₁ => EV C n env ε r₁ σ₁ (fun y σ₂ => OP2 C n env ε (compareOp op₁) x y σ₂ (fun z σ₃ => ∃ b, z = .bool b ∧
      if b then EV C n env ε r₂ σ₃ (fun z σ₄ => OP2 C n env ε (compareOp op₂) y z σ₄ (fun z σ₅ => ∃ b, z = .bool b ∧ QB b σ₅) X) X else QB false σ₃) X) X) X)
    (hm : lastMarks [op₁, op₂] [r₁, r₂] = false := by with_unfolding_all rfl) : TT C n env ε (isTrue (.Compare l [op₁, op₂] [r₁, r₂] pos) env w) σ QB X := fun A g s a D => by
  refine isTrue_chain (h.use a D (fun v x σ₁ s₁ D₁ k₁ r₁ h₁ => test_link (h₁.use a D₁ (fun w y σ₂ s₂ D₂ k₂ r₂ h₂ => ?_) fun _ _ z => z.trans k₁)) fun _ _ z => z) hm
  refine wpAny_mono (h₂ A g s₂ v w a D₂ (RV.mono k₂ _ _ r₁) r₂) (fun c s₃ ⟨z, σ₃, D₃, k₃, r₃, b, e, q⟩ => ?_) fun _ _ z => z.trans (k₁.trans k₂)
  subst e
  rw [show c = _ from r₃]
  refine wpAny_truthy_bool ?_
  have kk := (k₁.trans k₂).trans k₃
  cases b with
  | false => exact ⟨σ₃, D₃, kk, q⟩
  | true =>
    refine test_last' ((show EV C n env ε _ σ₃ _ X from q).use a D₃ (fun u z σ₄ s₄ D₄ k₄ r₄ h₄ => ?_) fun _ _ z => z.trans kk)
    refine wpAny_mono (h₄ A g s₄ w u a D₄ (RV.mono (k₃.trans k₄) _ _ r₂) r₄) (fun c s₅ ⟨z, σ₅, D₅, k₅, r₅, b, e, q⟩ => ?_) fun _ _ z => z.trans (kk.trans k₄)
    subst e
    rw [show c = _ from r₅]
    exact wpAny_truthy_bool ⟨σ₅, D₅, (kk.trans k₄).trans k₅, q⟩
theorem loop_find {β : Type} {M : Model} {A : Around} {E : Value → Shared → Prop} {s : Shared} (f : Nat → (Option β × Unit) → Sem (ForInStep (Option β × Unit))) {Q : Option β × Unit → Shared → Prop} {j : Nat}
    (h1 : ∀ i, i < j → wpAny M A (f i (none, ())) (fun r s' => r = .yield (none, ()) ∧ s' = s) (fun _ _ => False) s) (h2 : wpAny M A (f j (none, ())) (fun r s' => ∃ v, r = .done v ∧ Q v s') E s) :
    ∀ m i, i ≤ j → j < i + m → wpAny M A (forIn (List.range' i m) (none, ()) f) Q E s
  | 0, i, h3, h4 => by omega
  | m + 1, i, h3, h4 => by
    rw [List.range'_succ, List.forIn_cons]
    by_cases hi : i = j
    · subst hi
      refine wpAny_bind (wpAny_mono h2 (fun r s' ⟨v, e, q⟩ => ?_) fun _ _ z => z)
      subst e
      exact wpAny_pure q
    · refine wpAny_bind (wpAny_mono (h1 i (by omega)) (fun r s' ⟨e, e'⟩ => ?_) fun _ _ z => z.elim)
      subst e e'
      exact loop_find f h1 h2 m (i + 1) (by omega) (by omega)
theorem index_K (O : C.Ok) {a : Addr} {xs : Array Value} {k : Nat} {sl : Array (Option Value)} {x : Str} {ys : List Str} {j : Nat} (hK : C.K.lookup a = some ⟨.type "tuple", none, .seq xs k, sl⟩)
    (hx : ∃ ts : List Tok, xs.toList = List.zipWith Value.str ys ts ∧ ts.length = ys.length) (hj : ys[j]? = some x) (hn : ∀ i, i < j → ys[i]? ≠ some x) (h : Q (.int j) σ) :
    OPL C n env ε (fun vs => call (.builtin "tuple.index") vs) [.raw (.ref a), .str x] σ Q X := fun A g s vs hA D r => by
  obtain ⟨v, r', rfl, rfl, w, r'', rfl, ⟨t, rfl⟩, q⟩ := r
  rw [show r'' = [] from q]
  have ho := D.S.K O _ _ hK
  have hT : s.TypeIs (.ref a) "tuple" := ⟨_, ho, rfl⟩
  refine wpAny_call_entry PySem.F.slot_tuple_index hT PySem.F.entry_tuple_index ?_ (PySem.F.args_tuple_index_2 _ _)
  unfold Builtin.«tuple.index»
  refine wpAny_bind (wpAny_pure ?_)
  (try dsimp only)
  refine wpAny_bind ?_
  unfold Builtin.Tuple.tupleItemsOf
  refine wpAny_bind (wpAny_seqItems ho rfl (wpAny_pure ?_))
  (try dsimp only)
  refine wpAny_bind (wpAny_pure (wpAny_bind (wpAny_pure (wpAny_bind ?_))))
  obtain ⟨ts, hts, htl⟩ := hx
  have hsz : xs.size = ys.length := by
    rw [← Array.length_toList, hts, List.length_zipWith, htl, Nat.min_self]
  have hjl : j < ys.length := (List.getElem?_eq_some_iff.mp hj).1
  have hat : ∀ i y, ys[i]? = some y → ∃ t, xs[i]? = some (Value.str y t) := fun i y e => by
    have hi : i < ys.length := (List.getElem?_eq_some_iff.mp e).1
    have hi' : i < ts.length := by omega
    refine ⟨ts[i], ?_⟩
    rw [← Array.getElem?_toList, hts, List.getElem?_zipWith, e, List.getElem?_eq_getElem hi']
  simp only [Std.Legacy.Range.forIn_eq_forIn_range', Std.Legacy.Range.size]
  refine loop_find _ (j := j) (fun i hi => ?_) ?_ _ 0 (Nat.zero_le _) (by simp; omega)
  · have hil : i < ys.length := by omega
    obtain ⟨u, e⟩ := hat i ys[i] (List.getElem?_eq_getElem hil)
    rw [e]
    dsimp only
    refine wpAny_bind (wpAny_eqBool_str ?_)
    have : ¬ ys[i] = x := fun q => hn i hi (by rw [List.getElem?_eq_getElem hil, q])
    rw [if_neg (by simpa using this)]
    exact wpAny_pure ⟨rfl, rfl⟩
  · obtain ⟨u, e⟩ := hat j x hj
    rw [e]
    dsimp only
    refine wpAny_bind (wpAny_eqBool_str ?_)
    rw [if_pos (by simp)]
    refine wpAny_bind ?_
    unfold retInt
    refine wpAny_bind (wpAny_mkInt (wpAny_pure (wpAny_pure ⟨_, rfl, ?_⟩)))
    exact wpAny_pure ⟨_, rfl, ppt D _ rv_int h⟩
end
end Mine
end
section
open PySem PySem.W PyProof.Rows PySem.Calls PySem.Spec
set_option Elab.async false
set_option maxRecDepth 100000
set_option linter.unusedVariables false
set_option linter.unusedSectionVars false
namespace Mine
theorem upto_map (a c : Int) : ∀ k : Nat, upto a c k = (List.range k).map fun i => .int (a + i * c) := by
  intro k
  induction k generalizing a with
  | zero => rfl
  | succ k ih =>
    rw [upto, ih, List.range_succ_eq_map, List.map_cons, List.map_map]
    congr 1
    · simp
    · apply List.map_congr_left
      intro i _
      simp only [Function.comp_apply, V.int.injEq]
      push_cast
      rw [Int.add_mul]; omega
section
variable {C : Cx} {g : Gh} {σ σ' : Store} {s s' : Shared} {env : Env} {ε : Loc} {n : Nat} {A : Around} {Q : V → Store → Prop} {X X' : AX → Store → Prop} {QB : Bool → Store → Prop} {QS : Fl → Loc → Store → Prop} {QA QA' : Loc → Store → Prop}
theorem TA.mono {t : Value → Sem Unit} {x : V} (h : TA C n env ε t x σ QA X) (hQ : ∀ ε σ, QA ε σ → QA' ε σ) (hX : ∀ x σ, X x σ → X' x σ) : TA C n env ε t x σ QA' X' := fun A g s v a D r =>
  wpAny_mono (h A g s v a D r) (fun _ _ ⟨ε', σ', D', k, q⟩ => ⟨ε', σ', D', k, hQ _ _ q⟩) fun _ _ ⟨x, σ', ε', b, p, q, r, z⟩ => ⟨x, σ', ε', b, p, q, r, hX _ _ z⟩
theorem CmpW_each {α : Type} {target elt : Expr} {ifs : List Expr} {Inv : Store → Prop} {QL : List V → Store → Prop} (J : Store → Prop) (f : α → V) (gg : α → V) (hJ : ∀ σ, J σ → Inv σ) :
    ∀ (items : List α) (acc : List V) (ε : Loc) (σ : Store), J σ → (∀ x ∈ items, ∀ ε σ, J σ → TA C n env ε (assign target env) (f x) σ (fun ε₁ σ₁ => TT C n env ε₁ (tests ifs env) σ₁ (fun b σ₂ => b = true ∧ EV C n env ε₁ elt σ₂ (fun y σ₃ => y = gg x ∧ J σ₃) XF) XF) XF) →
    (∀ σ, J σ → QL (acc ++ items.map gg) σ) → CmpW C n env target elt ifs Inv QL acc (items.map f) ε σ
  | [], acc, ε, σ, j, _, q => by simpa [CmpW] using q σ j
  | x :: r, acc, ε, σ, j, h, q => by
    refine TA.mono (h x (.head _) ε σ j) (fun ε₁ σ₁ h₁ => h₁.mono (fun b σ₂ ⟨hb, h₂⟩ => ?_) fun _ _ z => z) fun _ _ z => z
    subst hb
    refine (TV.mono h₂ (fun y σ₃ ⟨e, j'⟩ => ?_) fun _ _ z => z)
    subst e
    exact ⟨hJ _ j', CmpW_each J f gg hJ r (acc ++ [gg x]) ε₁ σ₃ j' (fun y hy => h y (.tail _ hy)) fun σ j => by simpa using q σ j⟩
theorem CmpW_filter {α : Type} {target elt : Expr} {ifs : List Expr} {Inv : Store → Prop} {QL : List V → Store → Prop} (J : Store → Prop) (f : α → V) (gg : α → V) (p : α → Bool) (hJ : ∀ σ, J σ → Inv σ) :
    ∀ (items : List α) (acc : List V) (ε : Loc) (σ : Store), J σ → (∀ x ∈ items, ∀ ε σ, J σ → TA C n env ε (assign target env) (f x) σ (fun ε₁ σ₁ => TT C n env ε₁ (tests ifs env) σ₁ (fun b σ₂ => b = p x ∧ if b then EV C n env ε₁ elt σ₂ (fun y σ₃ => y = gg x ∧ J σ₃) XF else J σ₂) XF) XF) →
    (∀ σ, J σ → QL (acc ++ (items.filter p).map gg) σ) → CmpW C n env target elt ifs Inv QL acc (items.map f) ε σ
  | [], acc, ε, σ, j, _, q => by simpa [CmpW] using q σ j
  | x :: r, acc, ε, σ, j, h, q => by
    refine TA.mono (h x (.head _) ε σ j) (fun ε₁ σ₁ h₁ => h₁.mono (fun b σ₂ ⟨hb, h₂⟩ => ?_) fun _ _ z => z) fun _ _ z => z
    cases b with
    | true =>
      rw [if_pos rfl] at h₂ ⊢
      refine (TV.mono h₂ (fun y σ₃ ⟨e, j'⟩ => ?_) fun _ _ z => z)
      subst e
      exact ⟨hJ _ j', CmpW_filter J f gg p hJ r (acc ++ [gg x]) ε₁ σ₃ j' (fun y hy => h y (.tail _ hy)) fun σ j => by simpa [List.filter_cons, ← hb] using q σ j⟩
    | false =>
      rw [if_neg (by simp)] at h₂ ⊢
      exact ⟨hJ _ h₂, CmpW_filter J f gg p hJ r acc ε₁ σ₂ h₂ (fun y hy => h y (.tail _ hy)) fun σ j => by simpa [List.filter_cons, ← hb] using q σ j⟩
theorem ForW_from {α : Type} {target : Expr} {body : List Stmt} {Inv : Store → Prop} (J : Nat → Loc → Store → Prop) (f : α → V) (all : List α)
    (h : ∀ i x, all[i]? = some x → ∀ ε σ, J i ε σ → TA C n env ε (assign target env) (f x) σ (fun ε₁ σ₁ => TS C n env ε₁ (execs body env) σ₁ (fun fl ε₂ σ₂ => match fl with
      | .next => Inv σ₂ ∧ J (i + 1) ε₂ σ₂
      | .cont => Inv σ₂ ∧ J (i + 1) ε₂ σ₂
      | .brk => QS .next ε₂ σ₂
      | .ret v => QS (.ret v) ε₂ σ₂) X) X) (hend : ∀ ε σ, J all.length ε σ → QS .next ε σ) :
    ∀ (r : List α) (i : Nat) (ε : Loc) (σ : Store), r = all.drop i → i ≤ all.length → J i ε σ → ForW C n env target body Inv QS X (r.map f) ε σ
  | [], i, ε, σ, e, hi, j => by
    have : i = all.length := by
      have := congrArg List.length e
      simp at this; omega
    subst this
    exact hend ε σ j
  | x :: r, i, ε, σ, e, hi, j => by
    have hx : all[i]? = some x := by
      have : (all.drop i)[0]? = some x := by rw [← e]; rfl
      simpa using this
    have hl : i < all.length := (List.getElem?_eq_some_iff.mp hx).1
    have hr : r = all.drop (i + 1) := by rw [← List.tail_drop, ← e]; rfl
    refine TA.mono (h i x hx ε σ j) (fun ε₁ σ₁ h₁ => h₁.mono (fun fl ε₂ σ₂ z => ?_) fun _ _ z => z) fun _ _ z => z
    cases fl with
    | next => exact ⟨z.1, ForW_from J f all h hend r (i + 1) ε₂ σ₂ hr hl z.2⟩
    | cont => exact ⟨z.1, ForW_from J f all h hend r (i + 1) ε₂ σ₂ hr hl z.2⟩
    | brk => exact z
    | ret v => exact z
theorem ForW_each {α : Type} {target : Expr} {body : List Stmt} {Inv : Store → Prop} (J : Nat → Loc → Store → Prop) (f : α → V) (all : List α)
    (h : ∀ i x, all[i]? = some x → ∀ ε σ, J i ε σ → TA C n env ε (assign target env) (f x) σ (fun ε₁ σ₁ => TS C n env ε₁ (execs body env) σ₁ (fun fl ε₂ σ₂ => match fl with
      | .next => Inv σ₂ ∧ J (i + 1) ε₂ σ₂
      | .cont => Inv σ₂ ∧ J (i + 1) ε₂ σ₂
      | .brk => QS .next ε₂ σ₂
      | .ret v => QS (.ret v) ε₂ σ₂) X) X) (hend : ∀ ε σ, J all.length ε σ → QS .next ε σ) (h0 : J 0 ε σ) : ForW C n env target body Inv QS X (all.map f) ε σ :=
  ForW_from J f all h hend all 0 ε σ (by simp) (Nat.zero_le _) h0
theorem notin_dictS {a : Addr} {es : List (Str × V)} {ep : Nat} {k : Str} (hl : σ a = some (.dictS es ep)) (h : Q (.bool (!(valueA es k).isSome)) σ) : OP2 C n env ε (compareOp .NotIn) (.str k) (.obj a) σ Q X := fun A g s v w hA D r r' => by
  rw [show w = _ from r']
  obtain ⟨u, rfl⟩ := r
  obtain ⟨hsys, kvs, hd, hp⟩ := D.S.sim a _ hl
  have e : (valueAt kvs k).isSome = (valueA es k).isSome := by
    have z := hp.valueAt (k := k)
    cases q : valueA es k with
    | none => rw [q] at z; rw [z]; rfl
    | some x => rw [q] at z; obtain ⟨v, e1, _⟩ := z; rw [e1]; rfl
  exact wpAny_notIn_of (knd := PySem.strKind C.prog C.w) (k := k) (by simp [PySem.strKind, Value.isStrOf]) hsys hd.dictOf.mapOf (ppt D _ (show RV s.heap (.bool (!(valueA es k).isSome)) _ by rw [e]; rfl) h)
theorem EV_Neg {i : Int} {k} {p pos : Pos} (h : Q (.int (-i)) σ) : EV C n env ε (.UnaryOp .USub (.Constant (.int i) k p) pos) σ Q X := fun A g s a D =>
  wpAny_UnaryOp (wpAny_Constant_int (PyProof.Rows.neg_int (ppt D _ rv_int h)))
end
end Mine
end
section
open PySem PySem.W PyProof.Rows PySem.Calls PySem.Spec
set_option Elab.async false
set_option maxRecDepth 100000
set_option linter.unusedVariables false
set_option linter.unusedSectionVars false
namespace Mine
section
variable {prog : Program} {w : World} {A : Around} {E : Value → Shared → Prop} {s : Shared} {b : Array UInt8} {t : Tok}
theorem enb_nextOf_item {it : Addr} {i : Nat} {c : UInt8} {Q : Value → Shared → Prop} (hit : KBw.IsBytesIter s.heap it b t i) (hx : b[i]? = some c)
    (hQ : ∀ h', KBw.IsBytesIter h' it b t (i + 1) → Heap.SameBut it s.heap h' → Q (.int (c.toNat : Int) s.toks) { s with heap := h', toks := s.toks + 1 }) :
    wpAny (model prog w) A (Builtin.SmallTypes.nextOf (.ref it)) Q E s := by
  obtain ⟨o, ho, hc, hd⟩ := id hit
  unfold Builtin.SmallTypes.nextOf
  refine wpAny_bind (wpAny_callSpecial?_slot (name := PySem.Str.ofString "__next__") (KBw.iter_typeIs hit) KBw.slot_next
    (wpAny_call_entry KBw.slot_next (KBw.iter_typeIs hit) KBw.entry_next ?_ (KBw.args_next _)))
  show wpAny _ _ (field (.ref it) 0 >>= _) _ _ s
  refine wpAny_bind (wpAny_field ho hd (x := .bytes b t) rfl ?_)
  show wpAny _ _ (if (Value.bytes b t == Value.none) = true then _ else _) _ _ s
  rw [if_neg (show ¬ ((Value.bytes b t == Value.none) = true) from Bool.false_ne_true)]
  show wpAny _ _ (field (.ref it) 1 >>= _) _ _ s
  refine wpAny_bind (wpAny_field ho hd (x := .int i 0) rfl ?_)
  refine wpAny_bind (wpAny_of_eq (a := b) rfl ?_)
  simp only [Int.toNat_natCast, hx]
  refine wpAny_bind (wpAny_setField ho hd (by simp) (wpAny_bind (wpAny_mkInt (wpAny_pure ⟨_, rfl, wpAny_pure (hQ _ ?_ (Heap.SameBut.update ..))⟩))))
  exact ⟨_, Heap.get?_update_self _ ho (Obj.isFreed_of_fields (Obj.data_mapFields hd _)), (Obj.cls_mapFields ..).trans hc, by
    rw [Obj.data_mapFields hd]; simp [rawInt]⟩
theorem enb_nextOf_end {it : Addr} {i : Nat} {Q : Value → Shared → Prop} (hh : A.handled = none) (hit : KBw.IsBytesIter s.heap it b t i) (hx : b[i]? = none)
    (hE : ∀ h' e, Heap.ExtBut it s.heap h' → (∃ o, h'.get? e = some o ∧ o.cls = .type "StopIteration") → E (.ref e) { s with heap := h' }) :
    wpAny (model prog w) A (Builtin.SmallTypes.nextOf (.ref it)) Q E s := by
  obtain ⟨o, ho, hc, hd⟩ := id hit
  unfold Builtin.SmallTypes.nextOf
  refine wpAny_bind (wpAny_callSpecial?_slot (name := PySem.Str.ofString "__next__") (KBw.iter_typeIs hit) KBw.slot_next
    (wpAny_call_entry KBw.slot_next (KBw.iter_typeIs hit) KBw.entry_next ?_ (KBw.args_next _)))
  show wpAny _ _ (field (.ref it) 0 >>= _) _ _ s
  refine wpAny_bind (wpAny_field ho hd (x := .bytes b t) rfl ?_)
  show wpAny _ _ (if (Value.bytes b t == Value.none) = true then _ else _) _ _ s
  rw [if_neg (show ¬ ((Value.bytes b t == Value.none) = true) from Bool.false_ne_true)]
  show wpAny _ _ (field (.ref it) 1 >>= _) _ _ s
  refine wpAny_bind (wpAny_field ho hd (x := .int i 0) rfl ?_)
  refine wpAny_bind (wpAny_of_eq (a := b) rfl ?_)
  simp only [Int.toNat_natCast, hx]
  refine wpAny_bind (wpAny_rule (wpAny_bind (wpAny_setField ho hd (by simp) ?_)))
  show wpAny _ _ (newExc (.type "StopIteration") [] >>= _) _ _ _
  refine wpAny_bind ?_
  simp only [newExc, newTuple]
  refine wpAny_bind (wpAny_newObj_type ?_ (by size_fits))
  refine wpAny_bind (m := firstArgMember _ _) (wpAny_of_eq (a := Value.none) (by first | rfl | (simp only [firstArgMember]; rfl)) ?_)
  refine wpAny_newObj_type ?_ (by size_fits)
  simp only [raiseNew]
  refine wpAny_bind (wpAny_handled ?_)
  first | rw [show A.in1.handled = none from hh] | rw [hh]
  refine wpAny_bind (wpAny_pure (wpAny_throw ?_))
  exact hE _ _ (((Heap.SameBut.update ..).extBut.push _).push _) ⟨_, Heap.get?_push_size _ rfl, rfl⟩
theorem ext_bi {h h' : Heap} {it e : Addr} {i : Nat} (x : KBw.IsBytesIter h it b t i) (hs : Heap.SameBut e h h') (hne : it ≠ e) : KBw.IsBytesIter h' it b t i := let ⟨o, ho, r⟩ := x; ⟨o, (hs.2 it hne).trans ho, r⟩
theorem enb_next_item {e it : Addr} {i : Nat} {c : UInt8} {old : Value} {Q : Value → Shared → Prop}
    (he : IsEnum s.heap e it i old) (hit : KBw.IsBytesIter s.heap it b t i) (hx : b[i]? = some c) (hne : e ≠ it)
    (hQ : ∀ h', IsEnumOut h' e it ((i : Int) + 1) (.int c.toNat s.toks) s.heap.objs.size → KBw.IsBytesIter h' it b t (i + 1) →
      h'.get? s.heap.objs.size = some { cls := .type "tuple", data := .seq #[.int i (s.toks + 1), .int c.toNat s.toks] } → h'.objs.size = s.heap.objs.size + 1 →
      (∀ b o, b ≠ e → b ≠ it → s.heap.get? b = some o → h'.get? b = some o) → Q (.ref s.heap.objs.size) { s with heap := h', toks := s.toks + 2 }) :
    wpAny (model prog w) A (Builtin.«enumerate.__next__» ⟨[.ref e], []⟩) (fun fin s' => ∃ v, fin = .done (.ret v) ∧ Q v s') E s := by
  obtain ⟨hp, g, d, tk, os⟩ := s
  show wpAny _ _ (field (.ref e) 2 >>= _) _ _ _
  refine wpAny_bind (wpAny_field he rfl (x := .ref it) rfl ?_)
  refine wpAny_bind (enb_nextOf_item hit hx fun h₁ hit₁ hs₁ => ?_)
  replace hs₁ : Heap.SameBut it hp h₁ := hs₁
  have he₁ : IsEnum h₁ e it i old := (hs₁.2 e hne).trans he
  show wpAny _ _ (field (.ref e) 3 >>= _) _ _ ⟨h₁, g, d, tk + 1, os⟩
  refine wpAny_bind (wpAny_field he₁ rfl (x := rawInt i) rfl ?_)
  show wpAny _ _ (field (.ref e) 4 >>= _) _ _ ⟨h₁, g, d, tk + 1, os⟩
  refine wpAny_bind (wpAny_field he₁ rfl (x := .none) rfl ?_)
  show wpAny _ _ (mkInt i >>= _) _ _ ⟨h₁, g, d, tk + 1, os⟩
  refine wpAny_bind (wpAny_mkInt ?_)
  show wpAny _ _ (setField (.ref e) 3 (rawInt ((i : Int) + 1)) >>= _) _ _ ⟨h₁, g, d, tk + 1 + 1, os⟩
  refine wpAny_bind (wpAny_setField_rec he₁ (by simp) fun h₂ he₂ hs₂ => ?_)
  replace hs₂ : Heap.SameBut e h₁ h₂ := hs₂
  replace he₂ : IsEnum h₂ e it ((i : Int) + 1) old := he₂
  show wpAny _ _ (setField (.ref e) 4 .none >>= _) _ _ ⟨h₂, g, d, tk + 1 + 1, os⟩
  refine wpAny_bind (wpAny_setField_rec he₂ (by simp) fun h₃ he₃ hs₃ => ?_)
  replace hs₃ : Heap.SameBut e h₂ h₃ := hs₃
  replace he₃ : IsEnum h₃ e it ((i : Int) + 1) old := he₃
  show wpAny _ _ (newTuple [.int i (tk + 1), .int c.toNat tk] >>= _) _ _ ⟨h₃, g, d, tk + 1 + 1, os⟩
  refine wpAny_bind (wpAny_newTuple ?_)
  have he₄ : IsEnum (h₃.push { cls := .type "tuple", data := .seq #[.int i (tk + 1), .int c.toNat tk] }) e it ((i : Int) + 1) old := Heap.get?_push_of_some _ he₃
  generalize hh₄ : h₃.push { cls := .type "tuple", data := .seq #[.int i (tk + 1), .int c.toNat tk] } = h₄ at he₄
  have hsz : h₃.objs.size = hp.objs.size := by rw [hs₃.1, hs₂.1, hs₁.1]
  have hel : e < hp.objs.size := Heap.lt_size he
  have ht₄ : h₄.get? hp.objs.size = some { cls := .type "tuple", data := .seq #[.int i (tk + 1), .int c.toNat tk] } := by rw [← hh₄, ← hsz]; exact Heap.get?_push_size _ rfl
  have hz₄ : h₄.objs.size = hp.objs.size + 1 := by rw [← hh₄, Heap.size_push, hsz]
  have hk₄ : ∀ b o, b ≠ e → b ≠ it → hp.get? b = some o → h₄.get? b = some o := fun b o hbe hbi hb => by
    rw [← hh₄]; exact Heap.get?_push_of_some _ (hs₃.extBut b o hbe (hs₂.extBut b o hbe (hs₁.extBut b o hbi hb)))
  have hit₄ : KBw.IsBytesIter h₄ it b t (i + 1) := by
    rw [← hh₄]; obtain ⟨o, ho, r⟩ := ext_bi (ext_bi hit₁ hs₂ (Ne.symm hne)) hs₃ (Ne.symm hne); exact ⟨o, Heap.get?_push_of_some _ ho, r⟩
  show wpAny _ _ (Builtin.SmallTypes.ownedTupleIsFree (.ref e) >>= _) _ _ ⟨h₄, g, d, tk + 1 + 1, os⟩
  rw [hsz]
  clear hh₄ he₃ hs₃ he₂ hs₂ he₁ hs₁ hit₁ hsz h₃ h₂ h₁
  refine wpAny_bind ?_
  unfold Builtin.SmallTypes.ownedTupleIsFree
  refine wpAny_bind (wpAny_field he₄ rfl (x := .none) rfl (wpAny_pure ?_))
  simp only [if_true]
  refine wpAny_bind (wpAny_rule ?_)
  refine wpAny_bind (wpAny_field he₄ rfl (x := old) rfl ?_)
  refine wpAny_bind (wpAny_setField_rec he₄ (by simp) fun h₅ he₅ hs₅ => ?_)
  replace hs₅ : Heap.SameBut e h₄ h₅ := hs₅
  replace he₅ : IsEnum h₅ e it ((i : Int) + 1) (.int c.toNat tk) := he₅
  show wpAny _ _ (Builtin.SmallTypes.ownedTupleHandOut (.ref e) (.ref hp.objs.size) >>= _) _ _ ⟨h₅, g, d, tk + 1 + 1, os⟩
  refine wpAny_bind ?_
  unfold Builtin.SmallTypes.ownedTupleHandOut
  refine wpAny_bind (wpAny_setField_rec he₅ (by simp) fun h₆ he₆ hs₆ => ?_)
  replace hs₆ : Heap.SameBut e h₅ h₆ := hs₆
  replace he₆ : IsEnumOut h₆ e it ((i : Int) + 1) (.int c.toNat tk) hp.objs.size := he₆
  refine wpAny_setField_rec he₆ (by simp) fun h₇ he₇ hs₇ => ?_
  replace hs₇ : Heap.SameBut e h₆ h₇ := hs₇
  replace he₇ : IsEnumOut h₇ e it ((i : Int) + 1) (.int c.toNat tk) hp.objs.size := he₇
  refine wpAny_bind (wpAny_letGo (wpAny_pure ⟨_, rfl, hQ h₇ he₇ ?_ ?_ ?_ ?_⟩))
  · exact ext_bi (ext_bi (ext_bi hit₄ hs₅ (Ne.symm hne)) hs₆ (Ne.symm hne)) hs₇ (Ne.symm hne)
  · exact hs₇.extBut _ _ (Nat.ne_of_gt hel) (hs₆.extBut _ _ (Nat.ne_of_gt hel) (hs₅.extBut _ _ (Nat.ne_of_gt hel) ht₄))
  · rw [hs₇.1, hs₆.1, hs₅.1, hz₄]
  · exact fun b o hbe hbi hb => hs₇.extBut b o hbe (hs₆.extBut b o hbe (hs₅.extBut b o hbe (hk₄ b o hbe hbi hb)))
theorem enb_pyNext_item {e it : Addr} {i : Nat} {c : UInt8} {old : Value} {Q : Option Value → Shared → Prop}
    (he : IsEnum s.heap e it i old) (hit : KBw.IsBytesIter s.heap it b t i) (hx : b[i]? = some c) (hne : e ≠ it)
    (hQ : ∀ h', IsEnumOut h' e it ((i : Int) + 1) (.int c.toNat s.toks) s.heap.objs.size → KBw.IsBytesIter h' it b t (i + 1) →
      h'.get? s.heap.objs.size = some { cls := .type "tuple", data := .seq #[.int i (s.toks + 1), .int c.toNat s.toks] } → h'.objs.size = s.heap.objs.size + 1 →
      (∀ b o, b ≠ e → b ≠ it → s.heap.get? b = some o → h'.get? b = some o) → Q (some (.ref s.heap.objs.size)) { s with heap := h', toks := s.toks + 2 }) :
    wpAny (model prog w) A (pyNext (.ref e)) Q E s := by
  have hT : s.TypeIs (.ref e) "enumerate" := ⟨_, he, rfl⟩
  unfold pyNext
  exact wpAny_bind (wpAny_attempt (wpAny_callSpecial?_slot (name := PySem.Str.ofString "__next__") hT PySem.F.slot_enumerate_next
    (wpAny_call_entry PySem.F.slot_enumerate_next hT PySem.F.entry_enumerate_next
      (enb_next_item he hit hx hne fun h' a b c d k => wpAny_pure (hQ h' a b c d k)) (PySem.F.args_enumerate_next_1 _))))
theorem enb_pyNext_end {e it : Addr} {i : Nat} {old : Value} {Q : Option Value → Shared → Prop} (hh : A.handled = none)
    (he : IsEnum s.heap e it i old) (hit : KBw.IsBytesIter s.heap it b t i) (hx : b[i]? = none)
    (hQ : ∀ h', Heap.ExtBut it s.heap h' → Q none { s with heap := h' }) : wpAny (model prog w) A (pyNext (.ref e)) Q E s := by
  have hT : s.TypeIs (.ref e) "enumerate" := ⟨_, he, rfl⟩
  unfold pyNext
  refine wpAny_bind (wpAny_attempt (wpAny_callSpecial?_slot (name := PySem.Str.ofString "__next__") hT PySem.F.slot_enumerate_next
    (wpAny_call_entry PySem.F.slot_enumerate_next hT PySem.F.entry_enumerate_next ?_ (PySem.F.args_enumerate_next_1 _))))
  show wpAny _ _ (field (.ref e) 2 >>= _) _ _ _
  refine wpAny_bind (wpAny_field he rfl (x := .ref it) rfl ?_)
  refine wpAny_bind (enb_nextOf_end hh hit hx fun h' x he' hx' => ?_)
  obtain ⟨o, ho, hc⟩ := hx'
  refine wpAny_bind (wpAny_isInstance (T := "StopIteration") (b := true) ⟨o, ho, hc⟩ isSubtype_stop ?_)
  exact wpAny_pure (hQ _ he')
end
set_option maxHeartbeats 4000000 in
theorem meets_enumerate_newB (x : Array UInt8) (t : Tok) :
    Meets (Builtin.«enumerate.__new__» ⟨[.type "enumerate", .bytes x t], []⟩) (fun _ R s =>
      R (.ok (.ret (.ref (s.heap.push { cls := .type "bytes_iterator", data := .fields #[.bytes x t, .int 0 0] }).objs.size)))
        { s with heap := (s.heap.push { cls := .type "bytes_iterator", data := .fields #[.bytes x t, .int 0 0] }).push { cls := .type "enumerate", data := .fields #[.none, .bool false, .ref s.heap.objs.size, rawInt 0, .none, .none] } }) :=
  .of_wp fun prog w A R s h => by
    obtain ⟨hp, g, d, tk, os⟩ := s
    have hsub := sub_enumerate
    wp_delta
    with_reducible refine PySem.wpAny_bind ?_
    wp_delta
    with_reducible refine PySem.wpAny_bind ?_
    wp_delta
    with_reducible refine PySem.wpAny_pure ?_
    ((with_reducible apply PySem.wpAny_ite_false); focus (rfl; done))
    with_reducible refine PySem.wpAny_bind ?_
    with_reducible refine PySem.wpAny_of_eq (by assumption) ?_
    ((with_reducible apply PySem.wpAny_ite_false); focus (rfl; done))
    with_reducible refine PySem.wpAny_pure ?_
    ((with_reducible apply PySem.wpAny_ite_true); focus (rfl; done))
    with_reducible refine PySem.wpAny_bind ?_
    wp_delta
    with_reducible refine PySem.wpAny_bind ?_
    refine wpAny_stack_any fun st => wpAny_pure ?_
    split
    · rename_i c _ _ _ _ _
      cases (c == Value.type "enumerate")
      · ((with_reducible apply PySem.wpAny_ite_false); focus (rfl; done))
        with_reducible refine PySem.wpAny_bind ?_
        wp_delta
        ((with_reducible apply PySem.wpAny_ite_false); focus (rfl; done))
        wp_delta
        ((with_reducible apply PySem.wpAny_ite_false); focus (rfl; done))
        wp_delta
        with_reducible refine PySem.wpAny_pure ?_
        wp_delta
        with_reducible refine PySem.wpAny_bind ?_
        with_reducible apply KBw.pyIter_bytes
        with_reducible refine PySem.wpAny_bind ?_
        wp_delta
        wp_delta
        ((with_reducible apply PySem.wpAny_ite_false); focus (rfl; done))
        wp_delta
        wp_delta
        with_reducible refine PySem.wpAny_bind ?_
        with_reducible refine PySem.wpAny_alloc' ?_
        with_reducible refine PySem.wpAny_pure ?_
        wp_delta
        with_reducible refine PySem.wpAny_pure ?_
        exact ⟨_, rfl, h⟩
      · ((with_reducible apply PySem.wpAny_ite_true); focus (rfl; done))
        with_reducible refine PySem.wpAny_bind ?_
        wp_delta
        with_reducible refine PySem.wpAny_pure ?_
        with_reducible refine PySem.wpAny_bind ?_
        with_reducible apply KBw.pyIter_bytes
        with_reducible refine PySem.wpAny_bind ?_
        wp_delta
        wp_delta
        ((with_reducible apply PySem.wpAny_ite_false); focus (rfl; done))
        wp_delta
        wp_delta
        with_reducible refine PySem.wpAny_bind ?_
        with_reducible refine PySem.wpAny_alloc' ?_
        with_reducible refine PySem.wpAny_pure ?_
        wp_delta
        with_reducible refine PySem.wpAny_pure ?_
        exact ⟨_, rfl, h⟩
    · ((with_reducible apply PySem.wpAny_ite_false); focus (rfl; done))
      with_reducible refine PySem.wpAny_bind ?_
      wp_delta
      ((with_reducible apply PySem.wpAny_ite_false); focus (rfl; done))
      wp_delta
      ((with_reducible apply PySem.wpAny_ite_false); focus (rfl; done))
      wp_delta
      with_reducible refine PySem.wpAny_pure ?_
      wp_delta
      with_reducible refine PySem.wpAny_bind ?_
      with_reducible apply KBw.pyIter_bytes
      with_reducible refine PySem.wpAny_bind ?_
      wp_delta
      wp_delta
      ((with_reducible apply PySem.wpAny_ite_false); focus (rfl; done))
      wp_delta
      wp_delta
      with_reducible refine PySem.wpAny_bind ?_
      with_reducible refine PySem.wpAny_alloc' ?_
      with_reducible refine PySem.wpAny_pure ?_
      wp_delta
      with_reducible refine PySem.wpAny_pure ?_
      exact ⟨_, rfl, h⟩
theorem call_enumerate_bytes {prog : Program} {w : World} {A : Around} {E : Value → Shared → Prop} {s : Shared} {x : Array UInt8} {t : Tok} {Q : Value → Shared → Prop}
    (h : ∀ h', IsEnum h' (s.heap.objs.size + 1) s.heap.objs.size 0 .none → KBw.IsBytesIter h' s.heap.objs.size x t 0 → h'.objs.size = s.heap.objs.size + 2 →
      (∀ b o, s.heap.get? b = some o → h'.get? b = some o) → Q (.ref (s.heap.objs.size + 1)) { s with heap := h' }) :
    wpAny (model prog w) A (call (.type "enumerate") [.bytes x t]) Q E s := by
  refine callType_new PySem.F.called_enumerate (by decide) (PySem.F.typeCall_enumerate_1 _) (PySem.F.newCall_enumerate_1 _) (fun obj => PySem.F.args_object_init_2 obj _) PySem.F.entry_enumerate_new
    (meets_enumerate_newB x t) ?_
  have hz : (s.heap.push { cls := .type "bytes_iterator", data := .fields #[.bytes x t, .int 0 0] }).objs.size = s.heap.objs.size + 1 := Heap.size_push ..
  show _ ∧ _
  rw [hz]
  have he : IsEnum ((s.heap.push { cls := .type "bytes_iterator", data := .fields #[.bytes x t, .int 0 0] }).push
      { cls := .type "enumerate", data := .fields #[.none, .bool false, .ref s.heap.objs.size, rawInt 0, .none, .none] }) (s.heap.objs.size + 1) s.heap.objs.size 0 .none := by
    have := Heap.get?_push_size (s.heap.push { cls := .type "bytes_iterator", data := .fields #[.bytes x t, .int 0 0] })
      (o := { cls := .type "enumerate", data := .fields #[.none, .bool false, .ref s.heap.objs.size, rawInt 0, .none, .none] }) rfl
    rw [hz] at this; exact this
  refine ⟨⟨_, he, rfl⟩, h _ he ⟨_, Heap.get?_push_of_some _ (Heap.get?_push_size _ rfl), rfl, rfl⟩ (by rw [Heap.size_push, hz]) fun b o y => Heap.get?_push_of_some _ (Heap.get?_push_of_some _ y)⟩
section
variable {C : Cx} {g : Gh} {σ σ' : Store} {s s' : Shared} {env : Env} {ε : Loc} {n : Nat} {A : Around} {Q : V → Store → Prop} {X X' : AX → Store → Prop} {QB : Bool → Store → Prop} {QS : Fl → Loc → Store → Prop} {QA QA' : Loc → Store → Prop}
theorem Hd.ext2 (D : Hd C g env ε σ s) {e it : Addr} {oe oi : Obj} {h' : Heap} (tk : Nat) (eσ : σ e = none) (eg : g e = none) (eH : C.H.get? e = none) (eL : e ≠ env.locals) (iσ : σ it = none) (ig : g it = none) (iH : C.H.get? it = none) (iL : it ≠ env.locals)
    (he : s.heap.get? e = some oe) (te : NT oe) (hi : s.heap.get? it = some oi) (ti : NT oi) (hs : ∀ b o, b ≠ e → b ≠ it → s.heap.get? b = some o → h'.get? b = some o) :
    Hd C g env ε σ { s with heap := h', toks := tk } ∧ TK s.heap h' := by
  have k : TK s.heap h' := fun b x q c ⟨xs, m, d⟩ => hs b x (fun z => by subst z; rw [he] at q; cases q; exact te xs m d c) (fun z => by subst z; rw [hi] at q; cases q; exact ti xs m d c) q
  refine ⟨⟨⟨fun b x q => hs b x (fun z => by rw [z, eH] at q; cases q) (fun z => by rw [z, iH] at q; cases q) (D.S.base b x q), fun b x q => let ⟨o', r, z⟩ := D.S.gs b x q; ⟨o', hs b o' (fun z => by rw [z, eg] at q; cases q) (fun z => by rw [z, ig] at q; cases q) r, z⟩, D.S.gt, fun b x q => ?_, D.S.gσ, D.S.hσ, D.S.gh, D.S.gens, D.S.os⟩,
    D.F.keeps (h' := h') (fun o q => hs _ _ (Ne.symm eL) (Ne.symm iL) q) k rfl D.F.σL⟩, k⟩
  obtain ⟨ob, r⟩ := (D.S.sim b x q).there
  have hb : b ≠ e := fun z => by rw [z, eσ] at q; cases q
  have hb' : b ≠ it := fun z => by rw [z, iσ] at q; cases q
  exact (D.S.sim b x q).mono_of k ((hs b ob hb hb' r).trans r.symm)
abbrev enumV (b : Array UInt8) : List V := (List.range b.size).map fun (i : Nat) => V.tup [.int (i : Int), .int ((b.toList.getD i 0).toNat : Int)]
inductive EnumI (C : Cx) (n : Nat) (g : Gh) (env : Env) (s : Shared) (target : Expr) (body : List Stmt) (e it : Addr) (b : Array UInt8) (t : Tok) (QS : Fl → Loc → Store → Prop) (X : AX → Store → Prop) (k : Nat) (s₁ : Shared) : Prop
  | mk (i : Nat) (old : Value) (ε₁ : Loc) (σ₁ : Store) (e0 : k = b.size - i) (e1 : i ≤ b.size) (e2 : Hd C g env ε₁ σ₁ s₁) (e3 : TK s.heap s₁.heap) (e4 : IsEnum s₁.heap e it ((i : Nat) : Int) old) (e5 : KBw.IsBytesIter s₁.heap it b t i) (e6 : σ₁ e = none) (e7 : σ₁ it = none)
      (e8 : ForW C (n + 1) env target body (fun _ => True) QS X ((enumV b).drop i) ε₁ σ₁)
theorem for_enum {elts : List Expr} {k₀} {tp : Pos} {e it : Addr} {b : Array UInt8} {t : Tok} {body : List Stmt} (hA : AOk C (n + 1) g (some env) A) (hf : env.frame = some env.locals) (D : Hd C g env ε σ s)
    (eσ : σ e = none) (eg : g e = none) (eH : C.H.get? e = none) (eL : e ≠ env.locals) (iσ : σ it = none) (ig : g it = none) (iH : C.H.get? it = none) (iL : it ≠ env.locals) (hne : e ≠ it)
    (he : IsEnum s.heap e it 0 .none) (hit : KBw.IsBytesIter s.heap it b t 0) (h : ForW C (n + 1) env (.Tuple elts k₀ tp) body (fun _ => True) QS X (enumV b) ε σ) :
    codeAny C.M A (.forLoop (.Tuple elts k₀ tp) (.ref e) body [] env) (fun r s' => match r with | .ok f => PostS C g env s QS f s' | .error e => cameBackBy C.M A env (PostX C g env s X) e s') s := by
  have fin : ∀ e s', PostX C g env s X e s' → notedBy C.M A env (fun e s' => cameBackBy C.M A env (PostX C g env s X) e s') e s' := fun e s' z =>
    noted_rx hA hf z fun s'' z' ⟨ax, σ', ε', D', k', rx, q⟩ => cameBack_rx D' k' rx q fun _ z => z
  refine codeAny_forLoop_any (EnumI C n g env s (.Tuple elts k₀ tp) body e it b t QS X) ?_ b.size ⟨0, .none, ε, σ, by simp, Nat.zero_le _, D, TK.refl _, he, hit, eσ, iσ, by simpa using h⟩
  rintro k s₁ ⟨i, old, ε₁, σ₁, rfl, hi, D₁, k₁, he₁, hit₁, eσ₁, iσ₁, hw⟩
  obtain ⟨oi, hoi, hci, hdi⟩ := id hit₁
  have tI : NX oi ∧ NT oi := ⟨fun _ _ => ⟨_, hci, by decide⟩, NT.fields hdi⟩
  cases hv : b[i]? with
  | none =>
    have hsz : b.size ≤ i := by simpa using hv
    refine enb_pyNext_end hA.hn he₁ hit₁ hv fun h' hs => ?_
    obtain ⟨D₂, k₂⟩ := D₁.ext s₁.toks iσ₁ ig iH iL hoi tI.2 hs
    have : (enumV b).drop i = [] := by rw [List.drop_eq_nil_iff]; simp; omega
    rw [this] at hw
    exact wpAny_execs_nil ⟨.next, ε₁, σ₁, D₂, k₁.trans k₂, rfl, hw⟩
  | some c =>
    have hlt : i < b.size := (Array.getElem?_eq_some_iff.mp hv).1
    have hdrop : (enumV b).drop i = .tup [.int i, .int (c.toNat : Int)] :: (enumV b).drop (i + 1) := by
      have hl : i < (enumV b).length := by simp [hlt]
      rw [List.drop_eq_getElem_cons hl]
      congr 1
      simp [enumV, hv]
    rw [hdrop] at hw
    refine enb_pyNext_item he₁ hit₁ hv hne fun h₂ he₂ hit₂ ht₂ hz₂ hk₂ => ?_
    obtain ⟨D₂, k₂⟩ := D₁.ext2 (h' := h₂) (s₁.toks + 2) eσ₁ eg eH eL iσ₁ ig iH iL he₁ (NT.fields rfl) hoi tI.2 hk₂
    refine wpAny_letOwnedTupleGo_enum he₂ fun h₃ he₃ hs₃ => ?_
    replace hs₃ : Heap.SameBut e h₂ h₃ := hs₃
    obtain ⟨D₃, k₃⟩ := D₂.other (h' := h₃) (s₁.toks + 2) eσ₁ eg eH eL hs₃ he₂ (NT.fields rfl)
    have hel : e < s₁.heap.objs.size := Heap.lt_size he₁
    have ht₃ : IsTup h₃ s₁.heap.objs.size (List.toArray [.int i (s₁.toks + 1), .int c.toNat s₁.toks]) := ⟨_, (hs₃.2 _ (Nat.ne_of_gt hel)).trans ht₂, rfl, _, rfl⟩
    have hit₃ := ext_bi hit₂ hs₃ (Ne.symm hne)
    obtain ⟨oi', hoi', hci', hdi'⟩ := id hit₃
    obtain ⟨oe, hoe, hce, ⟨vse, hde⟩, hback⟩ : ∃ oe : Obj, h₃.get? e = some oe ∧ oe.cls = .type "enumerate" ∧ (∃ vs, oe.data = .fields vs) ∧ (∀ h : Heap, h.get? e = some oe → IsEnum h e it ((i + 1 : Nat) : Int) (.int c.toNat s₁.toks)) :=
      ⟨_, he₃, rfl, ⟨_, rfl⟩, fun h q => by
        have : ((i + 1 : Nat) : Int) = (i : Int) + 1 := by push_cast; rfl
        rw [this]; exact q⟩
    have D₄ := D₃.toghost eσ₁ eH eL hoe ⟨fun _ _ => ⟨_, hce, by decide⟩, NT.fields hde⟩
    have gI : ∀ oe, gadd g e oe it = none := fun oe => by simp [gadd, Ne.symm hne, ig]
    have D₅ := D₄.toghost iσ₁ iH iL hoi' ⟨fun _ _ => ⟨_, hci', by decide⟩, NT.fields hdi'⟩
    have a' := (hA.gadd (a := e) (o := oe) eg).gadd (a := it) (o := oi') (gI _)
    have kx : TK s.heap h₃ := (k₁.trans k₂).trans k₃
    have rx : RV h₃ (.tup [.int i, .int (c.toNat : Int)]) (.ref s₁.heap.objs.size) := rv_tup ht₃ ⟨_, _, rfl, ⟨_, rfl⟩, _, _, rfl, ⟨_, rfl⟩, rfl⟩
    refine wpAny_mono (hw A _ _ _ a' D₅ rx) (fun _ s₅ ⟨ε₅, σ₅, D₆, k₅, h₅⟩ => ?_) fun e s' z => fin e s' (((z.unghost (gI _) iL).unghost eg eL).trans kx)
    refine wpAny_mono (h₅ A _ s₅ a' D₆) (fun f s₆ ⟨fl, ε₆, σ₆, D₇, k₆, rf, h₆⟩ => ?_) fun e s' z => fin e s' (((z.unghost (gI _) iL).unghost eg eL).trans (kx.trans k₅))
    have D₈ := D₇.unghost (gI _) iL
    have D₉ := D₈.unghost eg eL
    have hE : IsEnum s₆.heap e it ((i + 1 : Nat) : Int) (.int c.toNat s₁.toks) := by
      obtain ⟨o₆, q, se⟩ := D₈.S.gs e oe (by simp [gadd])
      rw [se.eq hde] at q
      exact hback _ q
    have hI : s₆.heap.get? it = some oi' := by
      obtain ⟨o₆, q, se⟩ := D₇.S.gs it oi' (by simp [gadd])
      rw [q, se.eq hdi']
    have eσ₆ : σ₆ e = none := by
      cases q : σ₆ e with
      | none => rfl
      | some ob => have := D₈.S.gσ e (by rw [q]; exact nofun); simp [gadd] at this
    have iσ₆ : σ₆ it = none := by
      cases q : σ₆ it with
      | none => rfl
      | some ob => have := D₇.S.gσ it (by rw [q]; exact nofun); simp [gadd] at this
    have k₇ : TK s.heap s₆.heap := (kx.trans k₅).trans k₆
    cases fl with
    | next => rw [show f = _ from rf]; exact ⟨b.size - (i + 1), by omega, i + 1, _, ε₆, σ₆, rfl, hlt, D₉, k₇, hE, ⟨oi', hI, hci', hdi'⟩, eσ₆, iσ₆, h₆.2⟩
    | cont => rw [show f = _ from rf]; exact ⟨b.size - (i + 1), by omega, i + 1, _, ε₆, σ₆, rfl, hlt, D₉, k₇, hE, ⟨oi', hI, hci', hdi'⟩, eσ₆, iσ₆, h₆.2⟩
    | brk => rw [show f = _ from rf]; exact ⟨.next, ε₆, σ₆, D₉, k₇, rfl, h₆⟩
    | ret y => obtain ⟨w, rfl, rw'⟩ := rf; exact ⟨.ret y, ε₆, σ₆, D₉, k₇, ⟨w, rfl, rw'⟩, h₆⟩
end
end Mine
end
section
open PySem PySem.W PyProof.Rows PySem.Calls PySem.Spec
set_option Elab.async false
set_option maxRecDepth 100000
set_option linter.unusedVariables false
set_option linter.unusedSectionVars false
namespace Mine
section
variable {C : Cx} {g : Gh} {σ σ' : Store} {s s' : Shared} {env : Env} {ε : Loc} {n : Nat} {A : Around} {Q : V → Store → Prop} {X X' : AX → Store → Prop} {QB : Bool → Store → Prop} {QS : Fl → Loc → Store → Prop} {QA QA' : Loc → Store → Prop}
inductive EnumS (C : Cx) (n : Nat) (g : Gh) (env : Env) (ε : Loc) (s : Shared) (target : Expr) (body : List Stmt) (QS : Fl → Loc → Store → Prop) (X : AX → Store → Prop) (x : Value) (s₁ : Shared) : Prop
  | mk (e it : Addr) (t : Tok) (b : Array UInt8) (h' : Heap) (σ₁ : Store) (s₀ : Shared) (q1 : x = .ref e) (q2 : s₁ = { s₀ with heap := h' }) (q3 : Hd C g env ε σ₁ s₁) (q4 : TK s.heap s₁.heap) (q5 : σ₁ e = none) (q6 : g e = none) (q7 : C.H.get? e = none) (q8 : e ≠ env.locals) (q9 : σ₁ it = none) (q10 : g it = none) (q11 : C.H.get? it = none) (q12 : it ≠ env.locals) (q13 : e ≠ it)
      (q14 : IsEnum h' e it 0 .none) (q15 : KBw.IsBytesIter h' it b t 0) (q16 : ForW C (n + 1) env target body (fun _ => True) QS X (enumV b) ε σ₁)
theorem TS_ForEnum {elts : List Expr} {k₀} {tp np cpos pos : Pos} {e : Expr} {body : List Stmt} (hf : env.frame = some env.locals) (hn : EV C (n + 1) env ε (.Name "enumerate" np) σ (fun x σ₁ => x = .raw (.type "enumerate") ∧ σ₁ = σ) X)
    (h : EV C (n + 1) env ε e σ (fun x σ₁ => ∃ b, x = .bytes b ∧ ForW C (n + 1) env (.Tuple elts k₀ tp) body (fun _ => True) QS X (enumV b) ε σ₁) X)
    (he : eval (.Call (.Name "enumerate" np) [e] [] cpos) env = (do callWith cpos (← eval (.Name "enumerate" np) env) [] (backTo cpos (starEach [e] env)) []) := by rfl)
    (he2 : starEach [e] env = (false, eval e env) :: starEach [] env := by rfl) (hp : (backTo cpos (starEach [] env)).any (·.1) = false := by rfl)
    (hs : ∀ x, foldedSetIterable (.Call (.Name "enumerate" np) [e] [] cpos) env x = pure x := by intro _; rfl) : TS C (n + 1) env ε (exec (.For (.Tuple elts k₀ tp) (.Call (.Name "enumerate" np) [e] [] cpos) body [] pos) env) σ QS X := fun A g s a D => by
  refine wpAny_For (wpAny_mono (Q := EnumS C n g env ε s (.Tuple elts k₀ tp) body QS X) ?_ (fun x s₁ ⟨e, it, t, b, h', σ₁, s₀, q1, q2, D₁, k₁, e1, e2, e3, e4, i1, i2, i3, i4, hne, hE, hI, hw⟩ => ?_) fun _ _ z => z) hs
  · rw [he]
    refine wpAny_bind (hn.use a D (fun v x σ₁ s₁ D₁ k₁ r₁ ⟨q1, q2⟩ => ?_) fun _ _ z => z)
    subst q1 q2
    rw [show v = _ from r₁]
    have hl : TL C (n + 1) env ε (spliced (backTo cpos (starEach [e] env))) σ₁ (fun xs σ₂ => ∃ b, xs = [.bytes b] ∧ ForW C (n + 1) env (.Tuple elts k₀ tp) body (fun _ => True) QS X (enumV b) ε σ₂) X :=
      TL_cons (TV.mono h (fun x σ₂ ⟨b, q1, q2⟩ => TL_nil ⟨b, by rw [q1], q2⟩) fun _ _ z => z) he2
    have hl' := hl A g s₁ a D₁
    rw [he2] at hl' ⊢
    refine callWith_of (P := fun h => ∃ k, (k = Keeper.frame ∨ k = Keeper.machine ∨ k = Keeper.boundFrame) ∧ Looks C.M h (keeperOf (.type "enumerate")) k) (by show ((false || (backTo cpos (starEach [] env)).any (·.1)) || false) = false; rw [hp]; rfl) (fun h x => x)
      (evalArgs_plain (wpAny_mono hl' (fun vs s₂ ⟨xs, σ₂, D₂, k₂, r₂, b, q1, q2⟩ => ⟨Kp_type g s₂ D₂.S, ?_⟩) fun _ _ z => z.trans k₁))
    subst q1
    obtain ⟨v', r', rfl, ⟨t, rfl⟩, q⟩ := r₂
    rw [show r' = [] from q]
    show wpAny _ _ (call (.type "enumerate") [.bytes b t]) _ _ _
    have f1 := D₂.fresh (a := s₂.heap.objs.size) (Nat.le_refl _)
    have f2 := D₂.fresh (a := s₂.heap.objs.size + 1) (Nat.le_succ _)
    refine call_enumerate_bytes fun h' hE hI hz hk => ?_
    have D₃ := D₂.grown (h' := h') s₂.toks hk
    exact ⟨_, _, t, b, h', σ₂, s₂, rfl, rfl, D₃, (k₁.trans k₂).trans (TK.of_keeps hk), f2.1, f2.2.1, f2.2.2.1, f2.2.2.2, f1.1, f1.2.1, f1.2.2.1, f1.2.2.2, Nat.succ_ne_self _, hE, hI, q2⟩
  · subst q1 q2
    refine wpAny_pyIter_enum hE ?_
    refine codeAny_mono (for_enum a hf D₁ e1 e2 e3 e4 i1 i2 i3 i4 hne hE hI hw) fun r s' z => ?_
    rcases r with e | f
    · exact wpAny_mono z (fun _ _ q => q.trans k₁) fun _ _ q => q.trans k₁
    · exact z.trans k₁
end
end Mine
end
section
open PySem PySem.W PyProof.Rows PySem.Calls PySem.Spec
set_option Elab.async false
set_option maxRecDepth 100000
set_option linter.unusedVariables false
set_option linter.unusedSectionVars false
namespace Mine
theorem RVs.set {h : Heap} {x : V} {v : Value} (r : RV h x v) : ∀ {l : List V} {vs : List Value} (i : Nat), RVs h l vs → RVs h (l.set i x) (vs.set i v)
  | [], _, _, q => by rw [show _ = [] from q]; rfl
  | y :: l, _, 0, q => by obtain ⟨w, t, rfl, q1, q2⟩ := q; exact ⟨v, t, rfl, r, q2⟩
  | y :: l, _, i + 1, q => by obtain ⟨w, t, rfl, q1, q2⟩ := q; exact ⟨w, _, rfl, q1, RVs.set r i q2⟩
section
variable {C : Cx} {g : Gh} {σ σ' : Store} {s s' : Shared} {env : Env} {ε : Loc} {n : Nat} {A : Around} {Q : V → Store → Prop} {X X' : AX → Store → Prop} {QB : Bool → Store → Prop} {QS : Fl → Loc → Store → Prop} {QA QA' : Loc → Store → Prop}
theorem set_listI {l : Addr} {items : List V} {i : Int} {x : V} {QU : Store → Prop} (hl : σ l = some (.list items)) (h0 : 0 ≤ i) (hfit : i < 2 ^ 63) (hi : i < items.length) (h : QU (upd σ l (.list (items.set i.toNat x)))) : OPU C n env ε (.obj l) (.int i) x σ QU X := fun A g s vo vi v hA D r r' r'' => by
  rw [show vo = _ from r]
  obtain ⟨t, rfl⟩ := r'
  obtain ⟨vs, hls, hv⟩ := D.S.sim l _ hl
  obtain ⟨k, ho⟩ := id hls
  have hL := hls.isList
  have hlen := hv.length
  unfold setItem
  try with_reducible refine wpAny_holding ?_
  first | refine wpAny_bind (wpAny_pure ?_) | skip
  refine wpAny_bind (wpAny_sequenceKey hL.typeIs (by decide) ?_)
  refine wpAny_bind (wpAny_callSpecial?_slot (name := PySem.Str.ofString "__setitem__") hL.typeIs slot_list_setitem
    (wpAny_call_entry slot_list_setitem hL.typeIs entry_list_setitem ?_ (args_list_setitem _ _ _)))
  show wpAny _ _ (Builtin.List.listSubscript? (.int i t) >>= _) _ _ s
  refine wpAny_bind (wpAny_listSubscript_int (fitsIndex_of h0 hfit) ?_)
  clear hfit
  obtain ⟨i, rfl⟩ := Int.eq_ofNat_of_zero_le h0
  have hi2 : i < vs.length := by omega
  have hx' : vs.toArray[i]? = some (vs[i]'hi2) := by simp [hi2]
  show wpAny _ _ ((seqItemAt l i >>= fun r => pure (r.map (i, ·))) >>= _) _ _ s
  refine wpAny_bind (wpAny_bind (wpAny_seqItemAt ho rfl (wpAny_pure ?_)))
  rw [hx']
  show wpAny _ _ (setSeqItemAt l i v >>= _) _ _ s
  have hu := get?_update_seq (a := l) (c := "list") (xs := vs.toArray) (n := k) ho (·.setIfInBounds i v)
  have hsz : ((vs.toArray.setIfInBounds i v).size == vs.toArray.size) = true := by simp
  rw [if_pos hsz] at hu
  obtain ⟨D', k'⟩ := D.set (h' := s.heap.update l (Obj.mapSeq (·.setIfInBounds i v))) (x := .list (items.set i x)) s.toks hl (Heap.SameBut.update ..) ho (NT.list rfl)
    fun kk => ⟨vs.set i v, ⟨k, by rw [hu]; simp [seqObj, listOb]⟩, RVs.set (RV.mono kk _ _ r'') i (RVs.mono kk _ _ hv)⟩
  refine wpAny_bind (wpAny_setSeqItemAt ho rfl ?_)
  first
    | exact wpAny_bind (wpAny_pure (wpAny_pure ⟨.none, rfl, wpAny_pure ⟨_, D', k', h⟩⟩))
    | exact wpAny_pure ⟨.none, rfl, wpAny_pure ⟨_, D', k', h⟩⟩
end
end Mine
end
section
open PySem PySem.W PyProof.Rows PySem.Calls PySem.Spec
set_option Elab.async false
set_option maxRecDepth 100000
namespace Mine
def Rise (xs : Array Nat) : Prop := ∀ i k, i < k → k < xs.size → xs.getD i 0 < xs.getD k 0
def BS (xs : Array Nat) (j r : Nat) : Prop := r ≤ xs.size ∧ (∀ i, i < r → xs.getD i 0 < j) ∧ ∀ i, r ≤ i → i < xs.size → j ≤ xs.getD i 0
theorem below_go {xs : Array Nat} {j : Nat} (hr : Rise xs) : ∀ (fuel lo hi : Nat), hi ≤ lo + fuel → lo ≤ hi → hi ≤ xs.size → (∀ i, i < lo → xs.getD i 0 < j) → (∀ i, hi ≤ i → i < xs.size → j ≤ xs.getD i 0) →
    BS xs j (SetTable.below.go xs j fuel lo hi)
  | 0, lo, hi, h1, h2, h3, h4, h5 => by
    have : lo = hi := by omega
    subst this
    exact ⟨h3, h4, h5⟩
  | fuel + 1, lo, hi, h1, h2, h3, h4, h5 => by
    unfold SetTable.below.go
    by_cases hlt : lo < hi
    · rw [if_pos hlt]
      dsimp only
      have ej : xs.getD ((lo + hi) / 2) j = xs.getD ((lo + hi) / 2) 0 := by
        have : (lo + hi) / 2 < xs.size := by omega
        simp [Array.getD, this]
      rw [ej]
      by_cases hm : xs.getD ((lo + hi) / 2) 0 < j
      · rw [if_pos hm]
        refine below_go hr fuel _ hi (by omega) (by omega) h3 (fun i hi' => ?_) h5
        by_cases e : i = (lo + hi) / 2
        · subst e; exact hm
        · exact Nat.lt_trans (hr i _ (by omega) (by omega)) hm
      · rw [if_neg hm]
        refine below_go hr fuel lo _ (by omega) (by omega) (by omega) h4 (fun i hi' hs => ?_)
        by_cases e : i = (lo + hi) / 2
        · subst e; omega
        · have := hr ((lo + hi) / 2) i (by omega) hs; omega
    · rw [if_neg hlt]
      have : lo = hi := by omega
      subst this
      exact ⟨h3, h4, h5⟩
theorem below_spec {xs : Array Nat} (hr : Rise xs) (j : Nat) : SetTable.below xs j ≤ xs.size ∧ (∀ i, i < SetTable.below xs j → xs.getD i 0 < j) ∧ ∀ i, SetTable.below xs j ≤ i → i < xs.size → j ≤ xs.getD i 0 :=
  below_go hr xs.size 0 xs.size (by omega) (by omega) (Nat.le_refl _) (by omega) (by omega)
theorem getD_toList (xs : Array Nat) (i : Nat) : xs.getD i 0 = xs.toList.getD i 0 := by
  simp [Array.getD, List.getD]
  split <;> rename_i h
  · simp [h]
  · simp [Array.getElem?_eq_none (Nat.le_of_not_lt h)]
theorem insertAt_get {xs : Array Nat} {p x : Nat} (hp : p ≤ xs.size) (i : Nat) : (SetTable.insertAt xs p x).getD i 0 = if i < p then xs.getD i 0 else if i = p then x else xs.getD (i - 1) 0 := by
  rw [getD_toList, SetTable.toList_insertAt, getD_toList, getD_toList]
  simp only [List.getD_eq_getElem?_getD]
  have hl : (xs.toList.take p).length = p := by simp; omega
  by_cases h : i < p
  · rw [if_pos h, List.getElem?_append_left (by omega), List.getElem?_take_of_lt h]
  · rw [if_neg h, List.getElem?_append_right (by omega), hl]
    by_cases e : i = p
    · subst e; simp
    · rw [if_neg e, show i - p = (i - p - 1) + 1 from by omega, List.getElem?_cons_succ, List.getElem?_drop, show p + (i - p - 1) = i - 1 from by omega]
theorem insertAt_size (xs : Array Nat) {p x : Nat} (hp : p ≤ xs.size) : (SetTable.insertAt xs p x).size = xs.size + 1 := by
  rw [← Array.length_toList, SetTable.toList_insertAt]; simp; omega
theorem insert_rise {xs : Array Nat} (hr : Rise xs) {j : Nat} (hj : xs[SetTable.below xs j]? ≠ some j) : Rise (SetTable.insertAt xs (SetTable.below xs j) j) := by
  obtain ⟨b1, b2, b3⟩ := below_spec hr j
  have b4 : ∀ i, SetTable.below xs j ≤ i → i < xs.size → j < xs.getD i 0 := fun i h1 h2 => by
    have h3 := b3 i h1 h2
    have hne : xs.getD i 0 ≠ j := fun q => by
      by_cases e : i = SetTable.below xs j
      · subst e
        have e : xs[SetTable.below xs j]? = some (xs.getD (SetTable.below xs j) 0) := by simp [Array.getD, h2]
        exact hj (by rw [e, q])
      · have := hr (SetTable.below xs j) i (by omega) h2
        have := b3 (SetTable.below xs j) (Nat.le_refl _) (by omega)
        omega
    omega
  generalize SetTable.below xs j = p at *
  intro i k hik hk
  rw [insertAt_size xs b1] at hk
  rw [insertAt_get b1, insertAt_get b1]
  by_cases h1 : k < p
  · rw [if_pos (by omega), if_pos h1]; exact hr i k hik (by omega)
  · rw [if_neg h1]
    by_cases h2 : k = p
    · rw [if_pos h2, if_pos (by omega)]; exact b2 i (by omega)
    · rw [if_neg h2]
      by_cases h3 : i < p
      · rw [if_pos h3]; exact Nat.lt_trans (b2 i h3) (b4 (k - 1) (by omega) (by omega))
      · rw [if_neg h3]
        by_cases h4 : i = p
        · rw [if_pos h4]; exact b4 (k - 1) (by omega) (by omega)
        · rw [if_neg h4]; exact hr (i - 1) (k - 1) (by omega) (by omega)
structure GT (led : Bool) (t : SetTable) (n : Nat) : Prop where
  mask : t.mask = 7
  size : t.place.size = n
  dum : t.dummies = #[]
  rise : Rise t.place
  plain : t.plain = true
  led : t.led = led
theorem GT.fits {led : Bool} {t : SetTable} {n : Nat} (g : GT led t n) (hn : n ≤ 4) : t.fits n = true := by
  simp [SetTable.fits, SetTable.fill, g.size, g.dum, g.mask]; omega
theorem slot_of {led : Bool} {t : SetTable} {n : Nat} (g : GT led t n) (j : Nat) : t.slot j ≠ .dummy ∧ (t.slot j = .empty → t.place[SetTable.below t.place j]? ≠ some j) ∧ (t.slot j ≠ .empty → j ∈ t.place.toList) := by
  have hd : SetTable.has t.dummies j = false := by rw [g.dum]; rfl
  unfold SetTable.slot
  dsimp only
  by_cases h : (t.place[SetTable.below t.place j]? == some j) = true
  · rw [if_pos h]
    refine ⟨by simp, by simp, fun _ => ?_⟩
    have := eq_of_beq h
    rw [← Array.getElem?_toList] at this
    exact List.mem_of_getElem? this
  · rw [if_neg h, hd]
    exact ⟨by simp, fun _ q => h (by rw [q]; simp), fun q => absurd rfl q⟩
theorem has_empty {led : Bool} {t : SetTable} {n : Nat} (g : GT led t n) (hn : n ≤ 4) : ∃ j, j < 8 ∧ t.slot j = .empty := by
  refine Classical.byContradiction fun h => ?_
  have all : ∀ j ∈ List.range 8, j ∈ t.place.toList := fun j hj => (slot_of g j).2.2 fun q => h ⟨j, by simpa using hj, q⟩
  have := List.Nodup.length_le_of_subset List.nodup_range all
  rw [List.length_range, Array.length_toList, g.size] at this
  omega
def orb : Nat → Nat → Nat → Nat × Nat
  | 0, i, p => (i, p)
  | k + 1, i, p => orb k ((i * 5 + 1 + p / 32) % 8) (p / 32)
theorem orb_add : ∀ (k m i p : Nat), orb (k + m) i p = orb m (orb k i p).1 (orb k i p).2
  | 0, m, i, p => by rw [Nat.zero_add]; rfl
  | k + 1, m, i, p => by rw [show k + 1 + m = (k + m) + 1 from by omega]; exact orb_add k m _ _
theorem orb_lt : ∀ (k i p : Nat), i < 8 → (orb k i p).1 < 8
  | 0, _, _, h => h
  | k + 1, i, p, _ => orb_lt k _ _ (Nat.mod_lt _ (by decide))
theorem orb_p : ∀ (k i p : Nat), (orb k i p).2 = p / 32 ^ k
  | 0, i, p => by simp [orb]
  | k + 1, i, p => by rw [orb, orb_p k, Nat.div_div_eq_div_mul, Nat.pow_succ, Nat.mul_comm]
theorem orb_all : ∀ i, i < 8 → ∀ j, j < 8 → ∃ k, k < 8 ∧ (orb k i 0).1 = j := by decide +kernel
theorem orb_meets {i p j : Nat} (hi : i < 8) (hp : p < 2 ^ 64) (hj : j < 8) : ∃ k, k < 21 ∧ (orb k i p).1 = j := by
  obtain ⟨k, h1, h2⟩ := orb_all (orb 13 i p).1 (orb_lt _ _ _ hi) j hj
  refine ⟨13 + k, by omega, ?_⟩
  rw [orb_add, orb_p, Nat.div_eq_of_lt (Nat.lt_of_lt_of_le hp (by decide))]
  exact h2
theorem probe_go {led : Bool} {t : SetTable} {n : Nat} {h : Int} (g : GT led t n) : ∀ (fuel : Nat) (i p : Nat), (∃ k, k < fuel ∧ t.slot (orb k i p).1 = .empty) →
    ∃ j, SetTable.probe.go t (fun _ => h + 1) h fuel ⟨i, 0, i, p, none⟩ = some (.empty j none) ∧ t.slot j = .empty
  | 0, _, _, ⟨k, hk, _⟩ => by omega
  | fuel + 1, i, p, ⟨k, hk, he⟩ => by
    unfold SetTable.probe.go
    dsimp only
    cases hs : t.slot i with
    | empty => exact ⟨i, rfl, hs⟩
    | dummy => exact absurd hs (slot_of g i).1
    | live m =>
      have hne : (h + 1 == h) = false := by simp; omega
      dsimp only
      rw [hne]
      have hadv : t.advance ⟨i, 0, i, p, none⟩ = ⟨(i * 5 + 1 + p / 32) % 8, 0, (i * 5 + 1 + p / 32) % 8, p / 32, none⟩ := by
        unfold SetTable.advance
        simp only [Nat.lt_irrefl, gt_iff_lt, if_false, SetTable.leap, g.mask]
        have hr : SetTable.runEnd 7 ((i * 5 + 1 + p / 32) % (7 + 1)) = (i * 5 + 1 + p / 32) % (7 + 1) := by
          unfold SetTable.runEnd; rw [if_neg (by omega)]
        rw [hr, Nat.sub_self]
      simp only [Bool.false_eq_true, if_false]
      rw [hadv]
      cases k with
      | zero => rw [show (orb 0 i p).1 = i from rfl, hs] at he; cases he
      | succ k => exact probe_go g fuel _ _ ⟨k, by omega, he⟩
theorem free_slot {led : Bool} {t : SetTable} {n : Nat} (g : GT led t n) (hn : n ≤ 4) (h : Int) : ∃ j, t.freeSlot h = some (j, false) ∧ t.slot j = .empty := by
  obtain ⟨j, hj, he⟩ := has_empty g hn
  have hb : SetTable.bits h < 2 ^ 64 := by
    unfold SetTable.bits
    have := Int.emod_lt_of_pos h (show (0 : Int) < 2 ^ 64 by decide)
    have := Int.emod_nonneg h (show (2 ^ 64 : Int) ≠ 0 by decide)
    omega
  obtain ⟨k, hk, e⟩ := orb_meets (i := SetTable.bits h % 8) (p := SetTable.bits h) (Nat.mod_lt _ (by decide)) hb hj
  obtain ⟨j', h1, h2⟩ := probe_go (h := h) g (10 * SetTable.turns t.mask) (SetTable.bits h % 8) (SetTable.bits h) ⟨k, by rw [g.mask]; exact Nat.lt_trans hk (by decide), by rw [e]; exact he⟩
  refine ⟨j', ?_, h2⟩
  have hst : t.probeStart h = ⟨SetTable.bits h % 8, 0, SetTable.bits h % 8, SetTable.bits h, none⟩ := by
    unfold SetTable.probeStart
    dsimp only
    rw [g.mask]
    have hr : SetTable.runEnd 7 (SetTable.bits h % (7 + 1)) = SetTable.bits h % (7 + 1) := by
      unfold SetTable.runEnd; rw [if_neg (by omega)]
    rw [hr, Nat.sub_self]
  unfold SetTable.freeSlot SetTable.probe
  rw [hst, h1]
  rfl
theorem lay_small {led : Bool} {t : SetTable} {es : Array (Int × Value)} (g : GT led t es.size) (hn : es.size ≤ 3) (h : Int) (x : Value) :
    ∃ p t', p ≤ es.size ∧ layNew t es h x = (SetTable.insertAt es p (h, x), t', false, false) ∧ GT led t' (es.size + 1) := by
  obtain ⟨j, h1, h2⟩ := free_slot g (by omega) h
  have hj := (slot_of g j).2.1 h2
  obtain ⟨b1, _, _⟩ := below_spec g.rise j
  have hd : SetTable.has t.dummies j = false := by rw [g.dum]; rfl
  have gt : GT led (t.put j).1 (es.size + 1) := by
    unfold SetTable.put
    dsimp only
    rw [hd]
    exact ⟨g.mask, (insertAt_size _ b1).trans (by rw [g.size]), g.dum, insert_rise g.rise hj, g.plain, g.led⟩
  have hfit := gt.fits (by omega)
  refine ⟨SetTable.below t.place j, (t.put j).1, by rw [← g.size]; exact b1, ?_, gt⟩
  unfold layNew
  rw [h1]
  dsimp only
  have hsz : (SetTable.insertAt es (t.put j).2 (h, x)).size = es.size + 1 := by
    have hp : (t.put j).2 ≤ es.size := by rw [← g.size]; exact b1
    rw [← Array.length_toList, SetTable.toList_insertAt]; simp; omega
  rw [hsz, hfit]
  unfold SetTable.orStandIn
  rw [hfit]
  rfl
theorem not_full {led : Bool} {t : SetTable} {n : Nat} (g : GT led t n) (hn : n ≤ 4) : t.tooFull = false := by
  simp [SetTable.tooFull, SetTable.fill, g.size, g.dum, g.mask]; omega
theorem gt_fresh (led : Bool) : GT led (.fresh 0 0 led) 0 := ⟨rfl, rfl, rfl, fun i k _ h => by simp [SetTable.fresh] at h, rfl, rfl⟩
theorem pick_go {α : Type} (next : Nat → Nat) : ∀ (fuel k : Nat) (left : List α) (out : Array α), left.length = fuel → (pickOrder.go next fuel k left out).toList.Perm (out.toList ++ left)
  | 0, k, left, out, h => by rw [List.length_eq_zero_iff.mp h]; simp [pickOrder.go]
  | fuel + 1, k, left, out, h => by
    unfold pickOrder.go
    have hl : next k % left.length < left.length := Nat.mod_lt _ (by omega)
    rw [List.getElem?_eq_getElem hl]
    dsimp only
    refine (pick_go next fuel (k + 1) _ _ (by rw [List.length_eraseIdx_of_lt hl]; omega)).trans ?_
    rw [Array.toList_push, List.append_assoc]
    refine List.Perm.append_left _ ?_
    rw [List.eraseIdx_eq_take_drop_succ]
    have e : left = left.take (next k % left.length) ++ left[next k % left.length] :: left.drop (next k % left.length + 1) := by
      rw [List.getElem_cons_drop, List.take_append_drop]
    conv => rhs; rw [e]
    rw [List.singleton_append]
    exact List.perm_middle.symm
theorem pick_perm {α : Type} (next : Nat → Nat) (xs : Array α) : (pickOrder next xs).toList.Perm xs.toList := by
  have := pick_go next xs.size 0 xs.toList #[] (by simp)
  simpa [pickOrder] using this
end Mine
end
section
open PySem PySem.W PyProof.Rows PySem.Calls PySem.Spec
set_option Elab.async false
set_option maxRecDepth 100000
namespace Mine
abbrev setLed (w : World) : Bool := !w.params.followText "set-order"
def ent (prog : Program) (w : World) (p : Int × Tok) : Int × Value := ((intKind prog w).hash p.1, .int p.1 p.2)
abbrev setOb (es : Array (Int × Value)) (ep : Nat) (t : SetTable) : Obj := { cls := .type "set", dict := none, data := .set es ep t }
def GS (prog : Program) (w : World) (h : Heap) (a : Addr) (ps : List (Int × Tok)) : Prop :=
  ∃ ep t, h.get? a = some (setOb (ps.map (ent prog w)).toArray ep t) ∧ GT (setLed w) t ps.length ∧ ps.length ≤ 4 ∧ (ps.map (·.1)).Nodup
section
variable {prog : Program} {w : World} {A : Around} {E : Value → Shared → Prop} {s : Shared} {a : Addr} {ps : List (Int × Tok)}
theorem ent_elems (ps : List (Int × Tok)) : ElemsOf (intKind prog w) (ps.map (ent prog w)) := fun e he => by
  obtain ⟨p, _, rfl⟩ := List.mem_map.mp he
  exact ⟨⟨p.1, intKind_is _ _ _ _, rfl⟩, rfl⟩
theorem GS.at {h h' : Heap} (g : GS prog w h a ps) (k : ∀ o, h.get? a = some o → h'.get? a = some o) : GS prog w h' a ps := let ⟨ep, t, e, r⟩ := g; ⟨ep, t, k _ e, r⟩
theorem find_ent (n : Int) (ps : List (Int × Tok)) : (match (ps.map (ent prog w)).findIdx? (fun e => (intKind prog w).is n e.2) with | some _ => n ∈ ps.map (·.1) | none => n ∉ ps.map (·.1)) := by
  have his : ∀ p : Int × Tok, (intKind prog w).is n (ent prog w p).2 = true ↔ p.1 = n := fun p => by
    constructor
    · intro h; exact (intKind prog w).inj _ _ _ (intKind_is _ _ _ _) h
    · rintro rfl; exact intKind_is _ _ _ _
  cases hr : (ps.map (ent prog w)).findIdx? (fun e => (intKind prog w).is n e.2) with
  | none =>
    intro hm
    obtain ⟨p, hp, e⟩ := List.mem_map.mp hm
    have := List.findIdx?_eq_none_iff.mp hr _ (List.mem_map_of_mem hp)
    rw [(his p).mpr e] at this; cases this
  | some j =>
    obtain ⟨hj, hpj, _⟩ := List.findIdx?_eq_some_iff_getElem.mp hr
    rw [List.getElem_map] at hpj
    exact List.mem_map.mpr ⟨_, List.getElem_mem (by simpa using hj), (his _).mp hpj⟩
theorem add_small {n : Int} {tk : Tok} {Q : Bool → Shared → Prop} (hS : GS prog w s.heap a ps) (hz : ps.length ≤ 3)
    (h : ∀ r h' tk' ps', Heap.SameBut a s.heap h' → GS prog w h' a ps' → (∀ k ∈ ps'.map (·.1), k = n ∨ k ∈ ps.map (·.1)) → ps'.length ≤ ps.length + 1 → Q r { s with heap := h', toks := tk' }) :
    wpAny (model prog w) A (setAdd a (.int n tk)) Q E s := by
  obtain ⟨ep, t, ho, g, _, hn⟩ := hS
  have hsz : (ps.map (ent prog w)).toArray.size = ps.length := by simp
  have hel : ElemsOf (intKind prog w) (ps.map (ent prog w)).toArray.toList := by rw [List.toList_toArray]; exact ent_elems ps
  have hb : (ps.map (ent prog w)).toArray.size < scanBound := by rw [hsz]; unfold scanBound; omega
  have g' : GT (setLed w) t (ps.map (ent prog w)).toArray.size := by rw [hsz]; exact g
  have hf := g'.fits (by rw [hsz]; omega)
  unfold setAdd
  refine wpAny_holding (wpAny_bind ((intKind prog w).pyHash (k := n) (intKind_is _ _ _ _) ?_))
  unfold setAddHashed setAddHashedIn
  refine wpAny_holding (wpAny_bind (wpAny_setState_of (s := { s with toks := s.toks + 1 }) ho rfl hf ?_))
  dsimp only
  rw [byScan_of (knd := intKind prog w) rfl hb hel]
  simp only [↓reduceIte]
  unfold setAddByScan
  refine wpAny_bind ?_
  refine wpAny_bind (wpAny_rule ?_)
  refine wpAny_bind (wpAny_setScan_of (s := { s with toks := s.toks + 1 }) (knd := intKind prog w) (intKind_is _ _ _ _) ho rfl hf hel ?_)
  have hfi := find_ent (prog := prog) (w := w) n ps
  rw [List.toList_toArray]
  cases hr : (ps.map (ent prog w)).findIdx? (fun e => (intKind prog w).is n e.2) with
  | some j =>
    rw [hr] at hfi
    refine wpAny_pure (wpAny_pure ?_)
    exact h _ s.heap _ ps (Heap.SameBut.refl a s.heap) ⟨ep, t, ho, g, by omega, hn⟩ (fun k hk => .inr hk) (by omega)
  | none =>
    rw [hr] at hfi
    dsimp only
    obtain ⟨p, t', hp, hl, gt⟩ := lay_small g' (by rw [hsz]; omega) ((intKind prog w).hash n) (.int n tk)
    rw [hl]
    dsimp only
    rw [hsz] at hp gt
    have hes : SetTable.insertAt (ps.map (ent prog w)).toArray p ((intKind prog w).hash n, Value.int n tk) = ((ps.take p ++ (n, tk) :: ps.drop p).map (ent prog w)).toArray := by
      apply Array.ext'
      rw [SetTable.toList_insertAt, List.toList_toArray, List.toList_toArray, List.map_append, List.map_cons, List.map_take, List.map_drop]
      rfl
    rw [hes]
    have hlen : (ps.take p ++ (n, tk) :: ps.drop p).length = ps.length + 1 := by simp; omega
    refine wpAny_bind (wpAny_pure ?_)
    have hbv : hashByValue 8 (.int n tk) = pure true := hashByValue_scannable 8 rfl
    rw [if_pos gt.plain, hbv]
    refine wpAny_bind (wpAny_pure ?_)
    simp only [↓reduceIte]
    refine wpAny_bind (wpAny_storeSet_of (s := { s with toks := s.toks + 1 }) ho rfl ?_ (fits_of_scanBound (by simp only [List.size_toArray, List.length_map]; rw [hlen]; unfold scanBound; omega)))
    have hnf := not_full gt (by omega)
    rw [hnf]
    refine wpAny_pure (wpAny_pure ?_)
    have ho' := Heap.get?_update_self (Obj.putSet ((ps.take p ++ (n, tk) :: ps.drop p).map (ent prog w)).toArray t') ho rfl
    refine h _ _ _ (ps.take p ++ (n, tk) :: ps.drop p) (Heap.SameBut.update _ _ _) ⟨ep + 1, t', ho', by rw [hlen]; exact gt, by omega, ?_⟩ (fun k hk => ?_) (by omega)
    · have hperm : (ps.take p ++ (n, tk) :: ps.drop p).Perm ((n, tk) :: ps) := by
        refine List.perm_middle.trans ?_
        rw [List.take_append_drop]
      exact ((hperm.map _).nodup_iff).mpr (List.nodup_cons.mpr ⟨hfi, hn⟩)
    · rw [List.map_append, List.map_cons] at hk
      rcases List.mem_append.mp hk with hk | hk
      · exact .inr (by rw [List.map_take] at hk; exact List.mem_of_mem_take hk)
      · rcases List.mem_cons.mp hk with rfl | hk
        · exact .inl rfl
        · exact .inr (by rw [List.map_drop] at hk; exact List.mem_of_mem_drop hk)
end
end Mine
end
section
open PySem PySem.W PyProof.Rows PySem.Calls PySem.Spec
set_option Elab.async false
set_option maxRecDepth 100000
set_option maxHeartbeats 0
namespace Mine
section
variable {prog : Program} {w : World} {A : Around} {E : Value → Shared → Prop} {s : Shared} {a : Addr} {ps : List (Int × Tok)}
def SetFor (prog : Program) (w : World) (h : Heap) (a : Addr) (ns : List Int) : Prop := ∃ ps, GS prog w h a ps ∧ (∀ k ∈ ps.map (·.1), k ∈ ns) ∧ ps.length ≤ ns.length
theorem SetFor.at {h h' : Heap} {ns : List Int} (g : SetFor prog w h a ns) (k : ∀ o, h.get? a = some o → h'.get? a = some o) : SetFor prog w h' a ns := let ⟨ps, x, r⟩ := g; ⟨ps, x.at k, r⟩
theorem set_loop {R : Result → Shared → Prop} {I l : Addr} {items : Array Value} {ns : List Int} (hh : A.handled = none) (hne : l ≠ I) (hI : IntsAre items.toList ns) (hz : ns.length ≤ 4) (S : Addr) (hSI : S ≠ I) (hSl : S ≠ l) :
    ∀ (k i : Nat) (s : Shared), items.size - i = k → i ≤ items.size → s.heap.IsListIter I l i → s.heap.IsList l items → SetFor prog w s.heap S (ns.take i) →
      (∀ h' tk, (∀ b o, b ≠ S → b ≠ I → s.heap.get? b = some o → h'.get? b = some o) → SetFor prog w h' S ns → R (.ok (.ret .none)) { s with heap := h', toks := tk }) →
      codeAny (model prog w) A (.builtin "set.update.loop" ⟨[.ref S, .ref I], []⟩) R s
  | 0, i, s, hk, hi, hit, hl, hS, hR => by
    have hin : i = items.size := by omega
    subst hin
    have hln : items.size = ns.length := by rw [← Array.length_toList]; exact IntsAre.length hI
    refine codeAny_builtin F.entry_set_update_loop ?_
    rw [Around.under_plainId F.plain_set_update_loop _]
    show wpAny _ A.in1 (pyNext (.ref I) >>= _) _ _ s
    refine wpAny_bind (wpAny_pyNext_list_end (A := A.in1) hh hit hl (by simp) fun h' he' => ?_)
    show wpAny _ A.in1 (ret Value.none) _ _ _
    refine wpAny_pure (hR h' s.toks (fun b o _ hb e => he' b o hb e) ?_)
    have := hS.at (h' := h') fun o e => he' S o hSI e
    rw [hln, List.take_length] at this
    exact this
  | k + 1, i, s, hk, hi, hit, hl, hS, hR => by
    have hlt : i < items.size := by omega
    have hln : items.size = ns.length := by rw [← Array.length_toList]; exact IntsAre.length hI
    refine codeAny_builtin F.entry_set_update_loop ?_
    rw [Around.under_plainId F.plain_set_update_loop _]
    show wpAny _ A.in1 (pyNext (.ref I) >>= _) _ _ s
    refine wpAny_bind (wpAny_pyNext_list_item hit hl (x := items[i]) (by simp [hlt]) fun h' hit' hs' => ?_)
    have hl' := hl.extBut hs'.extBut hne
    obtain ⟨tk, hv⟩ := IntsAre.int_at hI i items[i] (by simp [hlt])
    rw [hv]
    obtain ⟨ps, hS1, hS2, hS3⟩ := hS.at (h' := h') fun o e => hs'.extBut S o hSI e
    have hni : ns[i]? = some (ns.getD i 0) := by simp [List.getD, show i < ns.length from by omega]
    show wpAny _ A.in1 (holding [Value.int (ns.getD i 0) tk] (setAdd S (.int (ns.getD i 0) tk)) >>= _) _ _ _
    refine wpAny_bind (wpAny_holding ?_)
    have hl3 : ps.length ≤ i := by rw [List.length_take] at hS3; omega
    refine add_small (s := { s with heap := h' }) hS1 (by omega) fun r h₂ tk' ps' hsb hG hk2 hlen => ?_
    refine wpAny_pure ⟨plainId_quiet F.plain_set_update_loop _, set_loop (ns := ns) hh hne hI hz S hSI hSl k (i + 1) { s with heap := h₂, toks := tk' } (by omega) hlt (hit'.at fun o e => (hsb.2 I (Ne.symm hSI)).trans e) (hl'.at fun o e => (hsb.2 l (Ne.symm hSl)).trans e) ⟨ps', hG, fun k hk => ?_, ?_⟩ fun h₃ tk₃ hk3 hS4 => ?_⟩
    · rw [List.take_add_one, hni]
      rcases hk2 k hk with rfl | hk
      · simp
      · exact List.mem_append_left _ (hS2 k hk)
    · rw [List.length_take]; omega
    · exact hR h₃ tk₃ (fun b o h1 h2 e => hk3 b o h1 h2 ((hsb.2 b h1).trans (hs'.extBut b o h2 e))) hS4
theorem set_new_1 (x : Value) {Q₁ : Value → Shared → Prop}
    (h : Q₁ (.ref s.heap.objs.size) { s with heap := s.heap.push (setOb #[] 0 (.fresh 0 0 (setLed w))) }) :
    codeAny (model prog w) A (.call (.builtin "set.__new__") ⟨[.type "set", x], []⟩) (wants Q₁ E) s := by
  refine codeAny_of_tree ?_
  show wpAny _ A.in1 (do checkBuiltinCall "set.__new__" ⟨[.type "set", x], []⟩; again (.builtin "set.__new__" ⟨[.type "set", x], []⟩)) _ _ s
  refine wpAny_bind (wpAny_of_eq (F.newCall_set_1 x) (wpAny_pure ⟨plainId_quiet F.plain_set_new _, codeAny_builtin F.entry_set_new ?_⟩))
  rw [Around.under_plainId F.plain_set_new _]
  unfold Builtin.«set.__new__» Builtin.Frozenset.newClass
  have hsub := sub_set_self
  obtain ⟨hp, g, d, tk, os⟩ := s
  dsimp only
  with_reducible refine PySem.wpAny_bind ?_
  with_reducible refine PySem.wpAny_bind ?_
  wp_delta
  with_reducible refine PySem.wpAny_pure ?_
  ((with_reducible apply PySem.wpAny_ite_false); focus (rfl; done))
  with_reducible refine PySem.wpAny_bind ?_
  with_reducible refine PySem.wpAny_of_eq (by assumption) ?_
  ((with_reducible apply PySem.wpAny_ite_false); focus (rfl; done))
  with_reducible refine PySem.wpAny_pure ?_
  with_reducible refine PySem.wpAny_bind ?_
  wp_delta
  with_reducible refine PySem.wpAny_bind ?_
  wp_delta
  with_reducible refine PySem.wpAny_bind ?_
  refine wpAny_askSetting (wpAny_pure ?_)
  dsimp only
  simp only [newObj]
  refine wpAny_bind (wpAny_alloc (wpAny_pure ?_))
  exact wpAny_pure h
theorem set_of_list {l : Addr} {items : Array Value} {ns : List Int} {Q : Value → Shared → Prop}
    (hh : A.handled = none) (hl : s.heap.IsList l items) (hi : IntsAre items.toList ns) (hz : ns.length ≤ 4)
    (h : ∀ (h' : Heap) (tk : Nat), SetFor prog w h' s.heap.objs.size ns → (∀ b o, s.heap.get? b = some o → h'.get? b = some o) → Q (.ref s.heap.objs.size) { s with heap := h', toks := tk }) :
    wpAny (model prog w) A (call (.type "set") [.ref l]) Q E s := by
  obtain ⟨c, tl, hmro⟩ := F.called_set.mro
  have hmade := F.called_set.made
  have hsub := F.called_set.sub
  refine wpAny_call (codeAny_of_tree ?_)
  show wpAny _ _ (callAny (.type "set") _) _ _ _
  refine wpAny_pure ⟨Code.quiet_builtin _ (by decide +kernel), codeAny_builtin F.entry_type_call ?_⟩
  rw [Around.under_plain (weight_type_call_type "set" [.ref l] []) rfl]
  have h1 := F.called_set.notType
  have h2 := F.called_set.canCreate
  have hct := F.typeCall_set_1 (.ref l)
  repeat (any_goals (first | assumption | wp_step))
  refine codeAny_mono (set_new_1 (.ref l) (E := E) (Q₁ := fun obj s₁ => obj = .ref s.heap.objs.size ∧ s₁ = { s with heap := s.heap.push (setOb #[] 0 (.fresh 0 0 (setLed w))) }) ⟨rfl, rfl⟩) fun r s₁ hr => ?_
  rcases r with e | (_ | _ | _ | obj)
  · exact hr
  · exact hr.elim
  · exact hr.elim
  · exact hr.elim
  obtain ⟨rfl, rfl⟩ := hr
  have hS : (s.heap.push (setOb #[] 0 (.fresh 0 0 (setLed w)))).get? s.heap.objs.size = some (setOb #[] 0 (.fresh 0 0 (setLed w))) := Heap.get?_push_size _ rfl
  have hT : Shared.TypeIs { s with heap := s.heap.push (setOb #[] 0 (.fresh 0 0 (setLed w))) } (.ref s.heap.objs.size) "set" := ⟨_, hS, rfl⟩
  have hli := F.called_set.init.lookup
  have hbi := F.called_set.init.bind (.ref s.heap.objs.size)
  repeat (any_goals (first | assumption | wp_step))
  refine codeAny_mono (codeAny_call_builtin (R := wants (fun r s₂ => r = .none ∧ ∃ h' tk, s₂ = { s with heap := h', toks := tk } ∧ SetFor prog w h' s.heap.objs.size ns ∧ ∀ b o, s.heap.get? b = some o → h'.get? b = some o) E) F.called_set.init.plain F.entry_set_init (check_set_init_1 hT ?_)) fun r₂ s₂ hr₂ => ?_
  rotate_left
  · rcases r₂ with e | (_ | _ | _ | r)
    · exact hr₂
    · exact hr₂.elim
    · exact hr₂.elim
    · exact hr₂.elim
    obtain ⟨rfl, h', tk, rfl, hSF, hk⟩ := hr₂
    repeat (any_goals (first | assumption | wp_step))
    exact h _ _ hSF hk
  obtain ⟨ol, hol, hcl, nl, hdl⟩ := id hl
  obtain ⟨ocls, odict, odata, oslots⟩ := ol
  simp only at hcl hdl
  subst hcl; subst hdl
  have hol' : (s.heap.push (setOb #[] 0 (.fresh 0 0 (setLed w)))).get? l = some { cls := .type "list", dict := odict, data := .seq items nl, slots := oslots } := Heap.get?_push_of_some _ hol
  have hsls := F.sub_list_set
  have hslf := F.sub_list_frozenset
  have hne : (Value.type "list" == Value.type "dict") = false := by decide
  have hl1 : (s.heap.push (setOb #[] 0 (.fresh 0 0 (setLed w)))).IsList l items := ⟨_, hol', rfl, nl, rfl⟩
  have hlS : l < s.heap.objs.size := Heap.lt_size hol
  unfold Builtin.«set.__init__» noKeywords Builtin.Frozenset.updateFrom
  generalize hPI : pyIter = PI
  with_reducible refine PySem.wpAny_bind ?_
  ((with_reducible apply PySem.wpAny_ite_true); focus (rfl; done))
  with_reducible refine PySem.wpAny_pure ?_
  wp_delta
  with_reducible refine PySem.wpAny_bind ?_
  wp_delta
  with_reducible refine PySem.wpAny_bind ?_
  wp_delta
  with_reducible refine PySem.wpAny_bind ?_
  with_reducible refine PySem.wpAny_typeOf (by assumption) ?_
  ((with_reducible apply PySem.wpAny_ite_false); focus (rfl; done))
  with_reducible refine PySem.wpAny_pure ?_
  wp_delta
  wp_delta
  with_reducible refine PySem.wpAny_pure ?_
  with_reducible refine PySem.wpAny_bind ?_
  wp_delta
  ((with_reducible apply PySem.wpAny_ite_false); focus (rfl; done))
  ((with_reducible apply PySem.wpAny_ite_false); focus (rfl; done))
  ((with_reducible apply PySem.wpAny_ite_false); focus (rfl; done))
  with_reducible refine PySem.wpAny_pure ?_
  with_reducible refine PySem.wpAny_bind ?_
  wp_delta
  with_reducible refine PySem.wpAny_pure ?_
  with_reducible refine PySem.wpAny_bind ?_
  wp_delta
  with_reducible refine PySem.wpAny_bind ?_
  wp_delta
  with_reducible refine PySem.wpAny_bind ?_
  ((with_reducible apply PySem.wpAny_load'); focus (heap_get; done))
  ((with_reducible apply PySem.wpAny_ite_false); focus (rfl; done))
  with_reducible refine PySem.wpAny_pure ?_
  with_reducible refine PySem.wpAny_pure ?_
  ((with_reducible apply PySem.wpAny_ite_false); focus (rfl; done))
  wp_delta
  with_reducible refine PySem.wpAny_bind ?_
  with_reducible refine PySem.wpAny_bind ?_
  wp_delta
  wp_delta
  with_reducible refine PySem.wpAny_bind ?_
  wp_delta
  with_reducible refine PySem.wpAny_bind ?_
  wp_delta
  with_reducible refine PySem.wpAny_bind ?_
  ((with_reducible apply PySem.wpAny_loadPart'); focus (heap_get; done))
  with_reducible refine PySem.wpAny_pure ?_
  with_reducible refine PySem.wpAny_of_eq (by assumption) ?_
  wp_delta
  wp_delta
  with_reducible refine PySem.wpAny_bind ?_
  wp_delta
  with_reducible refine PySem.wpAny_bind ?_
  ((with_reducible apply PySem.wpAny_loadPart'); focus (heap_get; done))
  with_reducible refine PySem.wpAny_pure ?_
  with_reducible refine PySem.wpAny_of_eq (by assumption) ?_
  ((with_reducible apply PySem.wpAny_ite_false); focus (rfl; done))
  with_reducible refine PySem.wpAny_bind ?_
  wp_delta
  with_reducible refine PySem.wpAny_bind ?_
  ((with_reducible apply PySem.wpAny_loadPart'); focus (heap_get; done))
  with_reducible refine PySem.wpAny_pure ?_
  ((with_reducible apply PySem.wpAny_ite_false); focus (rfl; done))
  with_reducible refine PySem.wpAny_bind ?_
  subst hPI
  refine wpAny_pyIter_list hl1 ?_
  refine wpAny_bind (wpAny_runValue ?_)
  have hsz1 : (s.heap.push (setOb #[] 0 (.fresh 0 0 (setLed w)))).objs.size = s.heap.objs.size + 1 := Heap.size_push ..
  refine set_loop (ns := ns) (items := items) (A := A.in1.in1) hh (by rw [hsz1]; exact Nat.ne_of_lt (Nat.lt_succ_of_lt hlS)) hi hz s.heap.objs.size (by rw [hsz1]; exact Nat.ne_of_lt (Nat.lt_succ_self _)) (Nat.ne_of_gt hlS) (items.size - 0) 0 _ (by omega) (Nat.zero_le _)
    ⟨_, Heap.get?_push_size _ rfl, rfl, rfl⟩ (hl1.push _) ⟨[], ⟨0, _, Heap.get?_push_of_some _ hS, gt_fresh _, by simp, by simp⟩, by simp, by simp⟩ fun h' tk hk hSF => ?_
  show wpAny _ _ _ _ _ _
  refine wpAny_pure ?_
  show wpAny _ _ (ret Value.none) _ _ _
  refine wpAny_pure ⟨rfl, h', tk, rfl, hSF, fun b o e => ?_⟩
  have hb := Heap.lt_size e
  exact hk b o (Nat.ne_of_lt hb) (by rw [hsz1]; exact Nat.ne_of_lt (Nat.lt_succ_of_lt hb)) (Heap.get?_push_of_some _ (Heap.get?_push_of_some _ e))
end
end Mine
end
section
open PySem PySem.W PyProof.Rows PySem.Calls PySem.Spec
set_option Elab.async false
set_option maxRecDepth 100000
set_option maxHeartbeats 0
namespace Mine
theorem slot_si_next : Slot "set_iterator" "__next__" "set_iterator.__next__" :=
  .of (owner := "set_iterator") (n := "__next__") (by rw [typeLookup_type, builtinLookup_eq_fast]; kernel_rfl) (by decide +kernel) (by decide +kernel) (by decide +kernel)
    (by first | exact .inl (by decide +kernel) | exact .inr (by decide +kernel)) (by rw [isSubtype_type]; kernel_rfl)
theorem slot_si_iter : Slot "set_iterator" "__iter__" "set_iterator.__iter__" :=
  .of (owner := "set_iterator") (n := "__iter__") (by rw [typeLookup_type, builtinLookup_eq_fast]; kernel_rfl) (by decide +kernel) (by decide +kernel) (by decide +kernel)
    (by first | exact .inl (by decide +kernel) | exact .inr (by decide +kernel)) (by rw [isSubtype_type]; kernel_rfl)
theorem entry_si_next : entryFor table "set_iterator.__next__" = some Builtin.«set_iterator.__next__» := entryFor_of_tree (by kernel_rfl)
theorem entry_si_iter : entryFor table "set_iterator.__iter__" = some Builtin.«dict_keyiterator.__iter__» :=
  entryFor_alias (id' := "dict_keyiterator.__iter__") (by kernel_rfl) rfl (by decide +kernel) (by kernel_rfl)
theorem entry_set_iter : entryFor table "set.__iter__" = some Builtin.«frozenset.__iter__» :=
  entryFor_alias (id' := "frozenset.__iter__") (by kernel_rfl) rfl (by decide +kernel) (by kernel_rfl)
theorem owner_si : Manifest.owners.lookup (String.ofList ['r', 'o', 't', 'a', 'r', 'e', 't', 'i', '_', 't', 'e', 's'].reverse) = some Manifest.sig_set_iterator := by kernel_rfl
theorem args_si_next (a : Value) : argsOk "set_iterator.__next__" ⟨[a], []⟩ := by
  unfold argsOk; rw [signature?_of (id := "set_iterator.__next__") (n := ['_', '_', 't', 'x', 'e', 'n', '_', '_']) (o := ['r', 'o', 't', 'a', 'r', 'e', 't', 'i', '_', 't', 'e', 's']) (by kernel_rfl) owner_si]; kernel_rfl
theorem args_si_iter (a : Value) : argsOk "set_iterator.__iter__" ⟨[a], []⟩ := by
  unfold argsOk; rw [signature?_of (id := "set_iterator.__iter__") (n := ['_', '_', 'r', 'e', 't', 'i', '_', '_']) (o := ['r', 'o', 't', 'a', 'r', 'e', 't', 'i', '_', 't', 'e', 's']) (by kernel_rfl) owner_si]; kernel_rfl
theorem below_zero {xs : Array Nat} (hr : Rise xs) : SetTable.below xs 0 = 0 := by
  obtain ⟨_, b2, _⟩ := below_spec hr 0
  cases h : SetTable.below xs 0 with
  | zero => rfl
  | succ k => rw [h] at b2; have := b2 0 (by omega); omega
theorem below_next {xs : Array Nat} (hr : Rise xs) {i : Nat} (hi : i < xs.size) : SetTable.below xs (xs.getD i 0 + 1) = i + 1 := by
  obtain ⟨b1, b2, b3⟩ := below_spec hr (xs.getD i 0 + 1)
  generalize SetTable.below xs (xs.getD i 0 + 1) = r at *
  have h1 : ¬ r ≤ i := fun q => by have := b3 i q hi; omega
  have h2 : ¬ i + 1 < r := fun q => by
    have h3 := b2 (i + 1) q
    have h4 := hr i (i + 1) (by omega) (by omega)
    omega
  omega
section
variable {prog : Program} {w : World} {A : Around} {E : Value → Shared → Prop} {s : Shared} {a : Addr} {es : Array (Int × Value)} {ep : Nat} {t : SetTable}
def ordOf (w : World) (a : Addr) (ep : Nat) (es : Array (Int × Value)) : Array (Int × Value) := if w.params.followText "set-order" = true then pickOrder (w.params.setOrder a ep) es else es
theorem ord_perm : (ordOf w a ep es).toList.Perm es.toList := by
  unfold ordOf
  split
  · exact pick_perm _ _
  · exact .refl _
theorem ord_size : (ordOf w a ep es).size = es.size := by rw [← Array.length_toList, ord_perm.length_eq, Array.length_toList]
abbrev itOb (sl i : Nat) (a : Addr) (n ep : Nat) : Obj := { cls := .type "set_iterator", data := .fields #[rawInt sl, rawInt i, .ref a, rawInt n, rawInt ep] }
structure SetOk (w : World) (a : Addr) (es : Array (Int × Value)) (ep : Nat) (t : SetTable) (h : Heap) : Prop where
  ob : h.get? a = some (setOb es ep t)
  gt : GT (setLed w) t es.size
  sz : es.size ≤ 4
def ItSt (w : World) (I a : Addr) (es : Array (Int × Value)) (ep : Nat) (t : SetTable) (i : Nat) (h : Heap) : Prop :=
  SetOk w a es ep t h ∧ i ≤ es.size ∧ ∃ sl, h.get? I = some (itOb sl i a es.size ep) ∧ (w.params.followText "set-order" = false → SetTable.below t.place sl = i)
theorem SetOk.fits {h : Heap} (x : SetOk w a es ep t h) : t.fits es.size = true := x.gt.fits x.sz
theorem SetOk.type (x : SetOk w a es ep t s.heap) : s.TypeIs (.ref a) "set" := ⟨_, x.ob, rfl⟩
theorem not_drawn (x : SetOk w a es ep t s.heap) {Q : Bool → Shared → Prop} (h : Q false s) : wpAny (model prog w) A (setDrawn a) Q E s := by
  unfold setDrawn
  refine wpAny_bind (wpAny_setState_of x.ob rfl x.fits ?_)
  dsimp only
  unfold setsByText
  refine wpAny_bind (wpAny_bind (wpAny_askSetting (wpAny_pure ?_)))
  refine wpAny_pure ?_
  have : (!w.params.followText "set-order" && (!t.plain && decide (es.size > 1))) = false := by rw [x.gt.plain]; simp
  show Q (!w.params.followText "set-order" && (!t.plain && decide (es.size > 1))) s
  rw [this]; exact h
theorem set_iter (x : SetOk w a es ep t s.heap) {Q : Value → Shared → Prop} (h : Q (.ref s.heap.objs.size) { s with heap := s.heap.push (itOb 0 0 a es.size ep) }) :
    wpAny (model prog w) A (pyIter (.ref a)) Q E s := by
  refine wpAny_pyIter_slot x.type F.slot_set_iter (wpAny_call_entry F.slot_set_iter x.type entry_set_iter ?_ (F.args_set_iter_1 _))
  unfold Builtin.«frozenset.__iter__» Builtin.Frozenset.slot0 slotArgs
  simp only [List.isEmpty_nil, Bool.not_true, Bool.false_eq_true, ↓reduceIte, bind_assoc, List.length_nil, bne_self_eq_false]
  unfold Builtin.Frozenset.addrOf Builtin.Frozenset.sizeOf
  refine wpAny_bind (wpAny_pure ?_)
  dsimp only
  refine wpAny_bind (wpAny_pure ?_)
  refine wpAny_bind (wpAny_bind (wpAny_setEntries_of x.ob rfl x.fits (wpAny_pure ?_)))
  refine wpAny_bind (not_drawn x ?_)
  simp only [Bool.false_eq_true, ↓reduceIte]
  refine wpAny_bind (wpAny_pure ?_)
  refine wpAny_bind (wpAny_setEpoch_of x.ob rfl x.fits ?_)
  refine wpAny_bind (wpAny_newObj_type ?_)
  exact wpAny_pure ⟨_, rfl, "set_iterator", _, ⟨_, Heap.get?_push_size _ rfl, rfl⟩, slot_si_next.lookup, h⟩
theorem ItSt.type {I : Addr} {i : Nat} (x : ItSt w I a es ep t i s.heap) : s.TypeIs (.ref I) "set_iterator" := let ⟨_, _, _, e, _⟩ := x; ⟨_, e, rfl⟩
theorem set_next_at (x : SetOk w a es ep t s.heap) {sl i : Nat} (hb : w.params.followText "set-order" = false → SetTable.below t.place sl = i) (hi : i ≤ es.size) {Q : Option (Value × Nat) → Shared → Prop}
    (h : ∀ r, (match (ordOf w a ep es)[i]? with | some e => ∃ m, r = some (e.2, m) ∧ (w.params.followText "set-order" = false → SetTable.below t.place m = i + 1) | none => r = none) → Q r s) :
    wpAny (model prog w) A (setNext a sl i ep) Q E s := by
  unfold setNext
  refine wpAny_bind (wpAny_setState_of x.ob rfl x.fits ?_)
  dsimp only
  unfold setsByText
  refine wpAny_bind (wpAny_bind (wpAny_askSetting (wpAny_pure ?_)))
  show wpAny _ _ (if w.params.followText "set-order" = true then _ else _) _ _ _
  cases hT : w.params.followText "set-order" with
  | true =>
    rw [if_pos rfl]
    simp only [bne_self_eq_false, Bool.false_eq_true, ↓reduceIte]
    unfold setWalk
    refine wpAny_bind (wpAny_bind (wpAny_setState_of x.ob rfl x.fits ?_))
    dsimp only
    unfold setsByText
    refine wpAny_bind (wpAny_bind (wpAny_askSetting (wpAny_pure ?_)))
    show wpAny _ _ (if w.params.followText "set-order" = true then _ else _) _ _ _
    rw [if_pos hT]
    refine wpAny_bind (wpAny_askSetting (wpAny_pure ?_))
    refine wpAny_pure (h _ ?_)
    show match (ordOf w a ep es)[i]? with | some e => _ | none => _
    unfold ordOf
    rw [if_pos hT]
    cases hp : (pickOrder (w.params.setOrder a ep) es)[i]? with
    | none => exact congrArg (fun o : Option (Int × Value) => o.map fun e => (e.2, sl)) hp
    | some e => exact ⟨sl, congrArg (fun o : Option (Int × Value) => o.map fun e => (e.2, sl)) hp, fun q => absurd (hT.symm.trans q) (by simp)⟩
  | false =>
    rw [if_neg (by simp)]
    have hdr : (!t.plain && decide (es.size > 1)) = false := by rw [x.gt.plain]; rfl
    have hled : t.led = true := by rw [x.gt.led]; simp [setLed, hT]
    have hord : ordOf w a ep es = es := by unfold ordOf; rw [if_neg (by rw [hT]; simp)]
    rw [hord] at h
    show wpAny _ _ (if (!t.plain && decide (es.size > 1)) = true then _ else _) _ _ _
    rw [hdr, if_neg (by simp)]
    have hnl : (!t.led && !es.isEmpty) = false := by rw [hled]; rfl
    refine wpAny_bind ?_
    show wpAny _ _ (if (!t.led && !es.isEmpty) = true then _ else _) _ _ _
    rw [hnl, if_neg (by simp)]
    refine wpAny_pure (wpAny_pure (h _ ?_))
    rw [hb hT]
    by_cases hlt : i < es.size
    · have hlp : i < t.place.size := by rw [x.gt.size]; exact hlt
      rw [Array.getElem?_eq_getElem hlt, Array.getElem?_eq_getElem hlp]
      refine ⟨t.place[i] + 1, rfl, fun _ => ?_⟩
      have : t.place[i] = t.place.getD i 0 := by simp [Array.getD, hlp]
      rw [this]
      exact below_next x.gt.rise hlp
    · rw [Array.getElem?_eq_none (by omega)]
theorem set_next_item {I : Addr} {i : Nat} (x : ItSt w I a es ep t i s.heap) (hne : a ≠ I) {e : Int × Value} (he : (ordOf w a ep es)[i]? = some e) {Q : Option Value → Shared → Prop}
    (h : ∀ h', ItSt w I a es ep t (i + 1) h' → Heap.SameBut I s.heap h' → Q (some e.2) { s with heap := h' }) : wpAny (model prog w) A (pyNext (.ref I)) Q E s := by
  obtain ⟨x1, x2, sl, ho, hb⟩ := id x
  have hlt : i < es.size := by
    have := (Array.getElem?_eq_some_iff.mp he).1
    rw [ord_size] at this; exact this
  unfold pyNext
  refine wpAny_bind (wpAny_attempt (wpAny_callSpecial?_slot (name := Str.ofString "__next__") x.type slot_si_next
    (wpAny_call_entry slot_si_next x.type entry_si_next ?_ (args_si_next _))))
  refine wpAny_bind (wpAny_pure ?_)
  refine wpAny_bind (wpAny_fieldsOf ho rfl ?_)
  refine wpAny_bind (wpAny_setEntries_of x1.ob rfl x1.fits ?_)
  rw [if_neg (by simp)]
  show wpAny _ _ (setNext a sl i ep >>= _) _ _ _
  refine wpAny_bind (set_next_at x1 hb x2 fun r hr => ?_)
  rw [he] at hr
  obtain ⟨m, rfl, hm⟩ := hr
  show wpAny _ _ (setField (.ref I) 0 (rawInt m) >>= _) _ _ _
  refine wpAny_bind (wpAny_setField ho rfl (by simp) ?_)
  have ho1 := Heap.get?_update_self (Obj.mapFields (·.setIfInBounds 0 (rawInt (m : Int)))) ho (Obj.isFreed_of_fields (Obj.data_mapFields rfl _))
  show wpAny _ _ (setField (.ref I) 1 (rawInt ((i : Int) + 1)) >>= _) _ _ _
  refine wpAny_bind (wpAny_setField ho1 rfl (by simp) ?_)
  have ho2 := Heap.get?_update_self (Obj.mapFields (·.setIfInBounds 1 (rawInt ((i : Int) + 1)))) ho1 (Obj.isFreed_of_fields (Obj.data_mapFields rfl _))
  have hsb := (Heap.SameBut.update s.heap I (Obj.mapFields (·.setIfInBounds 0 (rawInt (m : Int))))).trans (Heap.SameBut.update _ I (Obj.mapFields (·.setIfInBounds 1 (rawInt ((i : Int) + 1)))))
  refine wpAny_pure ⟨_, rfl, wpAny_pure (h _ ⟨⟨(hsb.2 a hne).trans x1.ob, x1.gt, x1.sz⟩, hlt, m, ho2, hm⟩ hsb)⟩
theorem set_next_end {I : Addr} (hh : A.handled = none) (x : ItSt w I a es ep t es.size s.heap) {Q : Option Value → Shared → Prop}
    (h : ∀ h', Heap.ExtBut I s.heap h' → Q none { s with heap := h' }) : wpAny (model prog w) A (pyNext (.ref I)) Q E s := by
  obtain ⟨x1, x2, sl, ho, hb⟩ := id x
  unfold pyNext
  refine wpAny_bind (wpAny_attempt (wpAny_callSpecial?_slot (name := Str.ofString "__next__") x.type slot_si_next
    (wpAny_call_entry slot_si_next x.type entry_si_next ?_ (args_si_next _))))
  refine wpAny_bind (wpAny_pure ?_)
  refine wpAny_bind (wpAny_fieldsOf ho rfl ?_)
  refine wpAny_bind (wpAny_setEntries_of x1.ob rfl x1.fits ?_)
  rw [if_neg (by simp)]
  show wpAny _ _ (setNext a sl es.size ep >>= _) _ _ _
  refine wpAny_bind (set_next_at x1 hb x2 fun r hr => ?_)
  rw [Array.getElem?_eq_none (by rw [ord_size]; exact Nat.le_refl _)] at hr
  subst hr
  show wpAny _ _ (setField (.ref I) 2 .none >>= _) _ _ _
  refine wpAny_bind (wpAny_setField ho rfl (by simp) ?_)
  show wpAny _ _ (newExc (.type "StopIteration") [] >>= _) _ _ _
  refine wpAny_bind ?_
  simp only [newExc, newTuple]
  refine wpAny_bind (wpAny_newObj_type ?_ (by size_fits))
  refine wpAny_bind (m := firstArgMember _ _) (wpAny_of_eq (a := Value.none) (by first | rfl | (simp only [firstArgMember]; rfl)) ?_)
  refine wpAny_newObj_type ?_ (by size_fits)
  simp only [raiseNew]
  refine wpAny_bind (wpAny_handled ?_)
  rw [show A.in1.handled = none from hh]
  refine wpAny_bind (wpAny_pure (wpAny_throw ?_))
  refine wpAny_bind (wpAny_isInstance (T := "StopIteration") (b := true) ⟨_, Heap.get?_push_size _ rfl, rfl⟩ isSubtype_stop ?_)
  exact wpAny_pure (h _ (((Heap.SameBut.update ..).extBut.push _).push _))
theorem set_self {I : Addr} {i : Nat} (x : ItSt w I a es ep t i s.heap) {Q : Value → Shared → Prop} (h : Q (.ref I) s) : wpAny (model prog w) A (pyIter (.ref I)) Q E s := by
  refine wpAny_pyIter_slot x.type slot_si_iter (wpAny_call_entry slot_si_iter x.type entry_si_iter ?_ (args_si_iter _))
  show wpAny _ _ (ret (.ref I)) _ _ s
  exact wpAny_pure ⟨_, rfl, "set_iterator", _, x.type, slot_si_next.lookup, h⟩
theorem walks_set (hh : A.handled = none) (I : Addr) (hne : a ≠ I) :
    Walks prog w A I [I, a] [I] es.size (fun i v => ∃ e, (ordOf w a ep es)[i]? = some e ∧ v = e.2) (ItSt w I a es ep t) where
  sub := fun b hb => by simp at hb; simp [hb]
  frame := fun i h h' ⟨x1, x2, sl, ho, hb⟩ hk => ⟨⟨hk a (by simp) _ x1.ob, x1.gt, x1.sz⟩, x2, sl, hk I (by simp) _ ho, hb⟩
  item := fun i s Q E hi st hQ => by
    have he : (ordOf w a ep es)[i]? = some ((ordOf w a ep es)[i]'(by rw [ord_size]; exact hi)) := Array.getElem?_eq_getElem _
    refine set_next_item st hne he fun h' st' hs => ?_
    exact hQ _ h' s.toks ⟨_, he, rfl⟩ st' fun b o hb e => hs.extBut b o (fun h => hb (by simp [h])) e
  done := fun s Q E st hQ => set_next_end hh st fun h' he => hQ h' s.toks fun b o hb e => he b o (fun h => hb (by simp [h])) e
  self := fun _ _ _ _ st hQ => set_self st hQ
theorem set_hint (x : SetOk w a es ep t s.heap) {Q : Bool → Shared → Prop} (h : Q false s) : wpAny (model prog w) A (Builtin.List.listLengthHint (.ref a)) Q E s := by
  unfold Builtin.List.listLengthHint
  refine wpAny_bind (wpAny_specialOf x.type F.slot_set_len.lookup ?_)
  generalize hid : ("set.__len__" : String) = id0
  wp_delta
  rw [show splitId id0 = some ("set", "__len__") from by subst hid; decide +kernel]
  subst hid
  refine wpAny_bind (wpAny_isInstance (T := "set") (b := true) x.type (by rw [isSubtype_type]; kernel_rfl) ?_)
  refine wpAny_ite_split (fun hab => absurd hab (by decide)) (fun _ => ?_)
  refine wpAny_ite_split (fun _ => ?_) (fun hab => absurd (by decide +kernel) hab)
  refine wpAny_bind (wpAny_typeOf x.type ?_)
  exact wpAny_pure h
theorem src_set : KdlSrc prog w "set" a a es.size (fun i v => ∃ e, (ordOf w a ep es)[i]? = some e ∧ v = e.2) (SetOk w a es ep t) where
  type := fun s x => x.type
  there := fun _ x => ⟨Heap.lt_size x.ob, Heap.lt_size x.ob⟩
  keep := fun _ _ x hk => ⟨hk a (.inl rfl) _ x.ob, x.gt, x.sz⟩
  notList := by decide
  notTuple := by decide
  hint := fun _ _ _ _ x hq => set_hint x hq
  iter := fun A s hh x => ⟨itOb 0 0 a es.size ep, ItSt w s.heap.objs.size a es ep t, fun E Q hQ => set_iter x hQ, walks_set hh _ (Nat.ne_of_lt (Heap.lt_size x.ob)),
    ⟨⟨Heap.get?_push_of_some _ x.ob, x.gt, x.sz⟩, Nat.zero_le _, 0, Heap.get?_push_size _ rfl, fun _ => below_zero x.gt.rise⟩⟩
end
end Mine
end
section
open PySem PySem.W PyProof.Rows PySem.Calls PySem.Spec
set_option Elab.async false
set_option maxRecDepth 100000
namespace Mine
def SetV (C : Cx) (o : AO) (ks : List Int) : Prop := ∃ (ps : List (Int × Tok)) (ep : Nat) (t : SetTable), o = .raw (setOb (ps.map (ent C.prog C.w)).toArray ep t) ∧ GT (setLed C.w) t ps.length ∧ ps.length ≤ 4 ∧ ks = ps.map (·.1)
def entKey (e : Int × Value) : Int := match e.2 with | .int k _ => k | _ => 0
theorem ents_ints {prog : Program} {w : World} : ∀ (l : List (Int × Value)), (∀ e ∈ l, ∃ p, e = ent prog w p) → IntsAre (l.map (·.2)) (l.map entKey)
  | [], _ => .nil
  | e :: l, h => by
    obtain ⟨p, rfl⟩ := h e (.head _)
    exact .cons _ p.2 (ents_ints l fun e he => h e (.tail _ he))
theorem eq_of_gets {α : Type} {vs : List α} {l : List α} (hl : vs.length = l.length) (h : ∀ (j : Nat) v, vs[j]? = some v → l[j]? = some v) : vs = l := by
  apply List.ext_getElem? 
  intro j
  by_cases hj : j < vs.length
  · rw [List.getElem?_eq_getElem hj, h j _ (List.getElem?_eq_getElem hj)]
  · rw [List.getElem?_eq_none (by omega), List.getElem?_eq_none (by omega)]
section
variable {C : Cx} {g : Gh} {σ : Store} {s : Shared} {env : Env} {ε : Loc} {n : Nat} {Q : V → Store → Prop} {X : AX → Store → Prop}
theorem set_l {l : Addr} {ns : List Int} (hl : σ l = some (.list (ns.map .int))) (hz : ns.length ≤ 4)
    (h : ∀ r ks o, σ r = none → SetV C o ks → (∀ k ∈ ks, k ∈ ns) → ks.length ≤ ns.length → ks.Nodup → Q (.obj r) (upd σ r o)) : OPL C (n + 1) env ε (fun vs => call (.type "set") vs) [.obj l] σ Q X := fun A g s vs hA D r => by
  obtain ⟨v, r', rfl, rfl, q⟩ := r
  rw [show r' = [] from q]
  obtain ⟨vs, hls, hv⟩ := D.S.sim l _ hl
  have hi := ints_of_rvs hv
  refine set_of_list (ns := ns) hA.hn hls.isList (by simpa using hi) hz fun h' tk hS kk => ?_
  obtain ⟨ps, ⟨ep, t, ho, g1, g2, g3⟩, k1, k2⟩ := hS
  obtain ⟨f1, f2, f3, f4⟩ := D.fresh (Nat.le_refl _)
  exact ⟨.obj s.heap.objs.size, _, (D.grown tk kk).add (o := .raw _) f2 f3 f4 ho, TK.of_keeps kk, rv_obj, h _ (ps.map (·.1)) _ f1 ⟨ps, ep, t, rfl, g1, g2, rfl⟩ k1 (by simpa using k2) g3⟩
theorem sorted_set {d : Addr} {o : AO} {ks : List Int} (hd : σ d = some o) (hs : SetV C o ks) (h : ∀ r, σ r = none → Q (.obj r) (upd σ r (.list ((sortI ks).map .int)))) : OPL C (n + 1) env ε (fun vs => call (.builtin "sorted") vs) [.obj d] σ Q X := fun A g s vs hA D r => by
  obtain ⟨v, r', rfl, rfl, q⟩ := r
  rw [show r' = [] from q]
  obtain ⟨ps, ep, t, rfl, g1, g2, rfl⟩ := hs
  have hob : s.heap.get? d = some (setOb (ps.map (ent C.prog C.w)).toArray ep t) := D.S.sim d _ hd
  have hsz : (ps.map (ent C.prog C.w)).toArray.size = ps.length := by simp
  have ok : SetOk C.w d (ps.map (ent C.prog C.w)).toArray ep t s.heap := ⟨hob, by rw [hsz]; exact g1, by rw [hsz]; exact g2⟩
  refine sorted_ints_of (collect_src (src_set (prog := C.prog)) (by simpa using hA.hn) ok (by rw [hsz, sizeLine_eq]; omega) fun h' tk vs k hsz' hl hv => ?_)
  have hp : (ordOf C.w d ep (ps.map (ent C.prog C.w)).toArray).toList.Perm (ps.map (ent C.prog C.w)) := by simpa using ord_perm (w := C.w) (a := d) (ep := ep) (es := (ps.map (ent C.prog C.w)).toArray)
  have evs : vs = (ordOf C.w d ep (ps.map (ent C.prog C.w)).toArray).toList.map (·.2) := by
    refine eq_of_gets (by rw [hl, List.length_map, hp.length_eq]; simp) fun j v e => ?_
    obtain ⟨e', h1, rfl⟩ := hv j v e
    rw [List.getElem?_map, Array.getElem?_toList, h1]; rfl
  have hS : IntsAre vs ((ordOf C.w d ep (ps.map (ent C.prog C.w)).toArray).toList.map entKey) := by
    rw [evs]
    refine ents_ints (prog := C.prog) (w := C.w) _ fun e he => ?_
    obtain ⟨p, _, rfl⟩ := List.mem_map.mp (hp.mem_iff.mp he)
    exact ⟨p, rfl⟩
  refine ⟨_, hS, by rw [hl, hsz]; omega, fun out ss' a1 a2 a3 => ?_⟩
  have a2' : ss'.Perm (ps.map (·.1)) := a2.trans ((hp.map entKey).trans (by rw [List.map_map]; exact .refl _))
  have e := sortI_of a2' a3
  subst e
  obtain ⟨f1, D', k'⟩ := D.sorted (vs := vs) (tk := tk) k (fun h => rvs_ints a1) hsz'
  exact ⟨.obj _, _, D', k', rv_obj, h _ f1⟩
end
end Mine
end
section
open PySem PySem.W PyProof.Rows PySem.Calls PySem.Spec
set_option Elab.async false
set_option maxRecDepth 100000
namespace Mine
section
variable {C : Cx} {n : Nat} {env : Env}
theorem CmpW_acc {α : Type} {target elt : Expr} {Inv : Store → Prop} {QL : List V → Store → Prop} (J : Nat → List V → Store → Prop) (hJ : ∀ i acc σ, J i acc σ → Inv σ) (f : α → V) (all : List α)
    (h : ∀ i x, all[i]? = some x → ∀ acc ε σ, J i acc σ → TA C n env ε (assign target env) (f x) σ (fun ε₁ σ₁ => EV C n env ε₁ elt σ₁ (fun y σ₃ => J (i + 1) (acc ++ [y]) σ₃) XF) XF)
    (fin : ∀ acc σ, J all.length acc σ → QL acc σ) : ∀ (r : List α) (i : Nat) (acc : List V) (ε : Loc) (σ : Store), r = all.drop i → i ≤ all.length → J i acc σ → CmpW C n env target elt [] Inv QL acc (r.map f) ε σ
  | [], i, acc, ε, σ, e, hi, j => by
    have hl : i = all.length := by
      have := congrArg List.length e
      simp at this; omega
    subst hl; exact fin acc σ j
  | x :: r, i, acc, ε, σ, e, hi, j => by
    have hlt : i < all.length := by
      have := congrArg List.length e
      simp at this; omega
    have hx : all[i]? = some x := by rw [← List.head?_drop, ← e]; rfl
    refine TA.mono (h i x hx acc ε σ j) (fun ε₁ σ₁ h₁ => TT_tests_nil ?_) fun _ _ z => z
    refine TV.mono h₁ (fun y σ₃ j' => ?_) fun _ _ z => z
    exact ⟨hJ _ _ _ j', CmpW_acc J hJ f all h fin r (i + 1) _ _ _ (by rw [← List.tail_drop, ← e]; rfl) hlt j'⟩
end
end Mine
end
section
open PySem PySem.W PyProof.Rows PySem.Calls PySem.Spec
set_option Elab.async false
set_option maxRecDepth 100000
namespace Mine
mutual
inductive CE : Expr → V → Prop
  | int {i : Int} {k p} : CE (.Constant (.int i) k p) (.int i)
  | str {s : Str} {k p} : CE (.Constant (.str s) k p) (.str s)
  | bytes {b : List UInt8} {k p} : CE (.Constant (.bytes b) k p) (.bytes b.toArray)
  | tup {es : List Expr} {l : List V} {k p} : CL es l → l.length ≤ 1000 → CE (.Tuple es k p) (.tup l)
inductive CL : List Expr → List V → Prop
  | nil : CL [] []
  | cons {e : Expr} {v : V} {es : List Expr} {l : List V} : CE e v → CL es l → CL (e :: es) (v :: l)
end
section
variable {C : Cx} {n : Nat} {env : Env} {ε : Loc} {σ : Store} {X : AX → Store → Prop}
theorem EV_Dict3S {Q : V → Store → Prop} (O : C.Ok) {k1 k2 k3 v1 v2 v3 : Expr} {pos : Pos} (h : ∀ d, σ d = none → TP C n env ε [some k1, some k2, some k3] [v1, v2, v3] pos (upd σ d (.dictS [] 0)) (DsP Q d) X) :
    EV C n env ε (.Dict [some k1, some k2, some k3] [v1, v2, v3] pos) σ Q X := EV_DictS O h (hlen := by simp)
theorem CE.star {e : Expr} {v : V} (h : CE e v) (es : List Expr) : starEach (e :: es) env = (false, eval e env) :: starEach es env := by cases h <;> rfl
mutual
theorem EV_const : ∀ {e : Expr} {v : V} {Q : V → Store → Prop}, CE e v → Q v σ → EV C n env ε e σ Q X
  | _, _, _, .int, q => EV_int q
  | _, _, _, .str, q => EV_str q
  | _, _, _, .bytes, q => EV_bytes q
  | _, _, _, .tup h hz, q => EV_Tuple (TL_const h ⟨Nat.le_trans hz (by decide), q⟩)
theorem TL_const : ∀ {es : List Expr} {l : List V} {QL : List V → Store → Prop} {pos : Pos}, CL es l → QL l σ → TL C n env ε (spliced (backTo pos (starEach es env))) σ QL X
  | _, _, _, _, .nil, q => TL_nil q
  | _, _, _, _, .cons h hs, q => TL_cons (EV_const h (TL_const hs q)) (h.star _)
end
end
end Mine
end
section
open PySem PySem.W PyProof.Rows PySem.Calls PySem.Spec
set_option Elab.async false
set_option maxRecDepth 100000
namespace Mine
def BaseInts (C : Cx) (l : Addr) (zs : List Int) : Prop := ∃ vs : List Value, C.H.IsList l vs.toArray ∧ IntsAre vs zs
section
variable {C : Cx} {g : Gh} {σ : Store} {s : Shared} {env : Env} {ε : Loc} {n : Nat} {Q : V → Store → Prop} {X : AX → Store → Prop}
theorem cut_base {l : Addr} {zs : List Int} {lo hi : Option Int} (hl : BaseInts C l zs) (hz : zs.length ≤ 1000000) (h : ∀ r, σ r = none → Q (.obj r) (upd σ r (.list (cut (zs.map .int) lo hi)))) : OPC C n env ε (.obj l) lo hi σ Q X := fun A g s v sl vl vu a D r hsl pl pu => by
  rw [show v = _ from r]
  obtain ⟨vs, ⟨o, e, hc, m, hd⟩, hi'⟩ := hl
  have hls : s.heap.IsList l vs.toArray := ⟨o, D.S.base _ _ e, hc, m, hd⟩
  have hv : RVs s.heap (zs.map V.int) vs := rvs_ints hi'
  have hvl : vs.length = zs.length := hi'.length
  refine ⟨"list", _, PySem.F.slot_list_getitem.lookup, hls.typeIs, wpAny_getItem_list_slice hls hsl pl pu .none (by simp) ?_ (by rw [List.size_toArray, hvl, sizeLine_eq]; omega)⟩
  rw [slicePick_plain]
  have hm : (zs.map V.int).length = zs.length := by simp
  simp only [List.size_toArray, hvl, ← hm]
  obtain ⟨f1, D', k⟩ := D.alloc { cls := .type "list", data := .seq ((vs.drop (lo.elim 0 (clipAt (zs.map V.int).length))).take (hi.elim (zs.map V.int).length (clipAt (zs.map V.int).length) - lo.elim 0 (clipAt (zs.map V.int).length))).toArray } s.toks (x := .list (cut (zs.map V.int) lo hi))
    ⟨_, PL.new _ _ _, RVs.mono (TK.push _ _) _ _ ((hv.drop _).take _)⟩
  exact ⟨.obj _, _, D', k, rv_obj, h _ f1⟩
end
end Mine
end
section
open PySem PySem.W PyProof.Rows PySem.Calls PySem.Spec
set_option Elab.async false
set_option maxRecDepth 100000
set_option maxHeartbeats 0
namespace Mine
theorem fill1 : PySem.Challenge.rw_og0085_01 = PySem.Challenge.rw_og0085_01 ∧ hd.heap_1 = hd.heap_1 := by k_fill; exact ⟨rfl, rfl⟩
theorem all1 {P : List Value → Prop} (h : ∀ a, P [a]) (vs : List Value) (e : vs.length = 1) : P vs := by
  cases vs with | nil => cases e | cons a l => cases l with | nil => exact h a | cons b l => cases e
theorem all2 {P : List Value → Prop} (h : ∀ a b, P [a, b]) (vs : List Value) (e : vs.length = 2) : P vs := by
  cases vs with | nil => cases e | cons a l => exact all1 (P := fun l => P (a :: l)) (h a) l (Nat.succ.inj e)
theorem all3 {P : List Value → Prop} (h : ∀ a b c, P [a, b, c]) (vs : List Value) (e : vs.length = 3) : P vs := by
  cases vs with | nil => cases e | cons a l => exact all2 (P := fun l => P (a :: l)) (h a) l (Nat.succ.inj e)
theorem all4 {P : List Value → Prop} (h : ∀ a b c d, P [a, b, c, d]) (vs : List Value) (e : vs.length = 4) : P vs := by
  cases vs with | nil => cases e | cons a l => exact all3 (P := fun l => P (a :: l)) (h a) l (Nat.succ.inj e)
structure L1 (C : Cx) : Prop where
  ok : C.Ok
  kp : C.KP = hd.heap_1
theorem L1.k {C : Cx} (h : L1 C) {α : Type} {f : Frag → α} {r : α} (e : f (hd.heap_1 C.w.params) = r) : f C.K = r := by
  unfold Cx.K; rw [h.kp]; exact e
section
variable {C : Cx} {σ : Store} {n : Nat} {env : Env} {ε : Loc} {Q : V → Store → Prop} {X : AX → Store → Prop} {QS : Fl → Loc → Store → Prop}
theorem gl (O : L1 C) {x : Str} {pos : Pos} {v : Value} (h : Q (.raw v) σ) (e : nsIn (hd.heap_1 C.w.params) mainGlobals x = some (some v) := by k_is) (hk : env.scope.kind = .function := by rfl) (hl : env.kindOf x = some .globalImplicit := by rfl)
    (hg : env.globals = mainGlobals := by rfl) (hd : (x == ("__debug__" : Str)) = false := by decide) : EV C n env ε (.Name x pos) σ Q X := EV_global O.ok (O.k (f := fun K => nsIn K mainGlobals x) e) (fun _ _ => rv_raw) h hk hl hg hd
theorem bl (O : L1 C) {x : Str} {pos : Pos} {v : Value} (h : Q (.raw v) σ) (e : nsIn (hd.heap_1 C.w.params) mainGlobals x = some none := by k_is) (hv : bootBuiltins x = some v := by boot_by_name) (hx : x ≠ "__name__" := by decide) (hk : env.scope.kind = .function := by rfl) (hl : env.kindOf x = some .globalImplicit := by rfl)
    (hg : env.globals = mainGlobals := by rfl) (hb : env.builtins = builtinsNs := by rfl) (hd : (x == ("__debug__" : Str)) = false := by decide) : EV C n env ε (.Name x pos) σ Q X := EV_builtin O.ok (O.k (f := fun K => nsIn K mainGlobals x) e) hv h hx hk hl hg hb hd
abbrev Qgc (C : Cx) (n : Nat) (v : Value) (Q : V → Store → Prop) (X : AX → Store → Prop) : List V → Store → Prop := fun xs σ₁ => CALL C n v xs σ₁ Q X
abbrev Qbc (C : Cx) (n : Nat) (env : Env) (ε : Loc) (v : Value) (Q : V → Store → Prop) (X : AX → Store → Prop) : List V → Store → Prop := fun xs σ₁ => OPL C n env ε (fun vs => call v vs) xs σ₁ Q X
theorem gc (O : L1 C) {x : Str} {np pos : Pos} {v : Value} {a : Expr} {as : List Expr} (h : TL C n env ε (spliced (backTo pos (starEach (a :: as) env))) σ (Qgc C n v Q X) X) (e : nsIn (hd.heap_1 C.w.params) mainGlobals x = some (some v) := by k_is)
    (kp : keepIn (hd.heap_1 C.w.params) v = true := by k_is) (hk : env.scope.kind = .function := by rfl) (hl : env.kindOf x = some .globalImplicit := by rfl)
    (hg : env.globals = mainGlobals := by rfl) (hd : (x == ("__debug__" : Str)) = false := by decide)
    (he : eval (.Call (.Name x np) (a :: as) [] pos) env = (do callWith pos (← eval (.Name x np) env) [] (backTo pos (starEach (a :: as) env)) []) := by rfl)
    (he2 : starEach (a :: as) env = (false, eval a env) :: starEach as env := by rfl) (hp : (backTo pos (starEach as env)).any (·.1) = false := by rfl) : EV C n env ε (.Call (.Name x np) (a :: as) [] pos) σ Q X :=
  EV_Call (gl O ⟨_, one_raw _, CW_cons (TL.mono h fun xs σ₁ q => ⟨Kp_K O.ok (O.k (f := fun K => keepIn K v) kp), OPL_call q⟩) he2 hp⟩ e hk hl hg hd) he
theorem gc0 (O : L1 C) {x : Str} {np pos : Pos} {v : Value} (h : CALL C n v [] σ Q X) (e : nsIn (hd.heap_1 C.w.params) mainGlobals x = some (some v) := by k_is)
    (kp : keepIn (hd.heap_1 C.w.params) v = true := by k_is) (hk : env.scope.kind = .function := by rfl) (hl : env.kindOf x = some .globalImplicit := by rfl)
    (hg : env.globals = mainGlobals := by rfl) (hd : (x == ("__debug__" : Str)) = false := by decide)
    (he : eval (.Call (.Name x np) [] [] pos) env = (do callWith pos (← eval (.Name x np) env) [] (backTo pos (starEach [] env)) []) := by rfl) : EV C n env ε (.Call (.Name x np) [] [] pos) σ Q X :=
  EV_Call (gl O ⟨_, one_raw _, CW_nil (Kp_K O.ok (O.k (f := fun K => keepIn K v) kp)) (OPL_call h)⟩ e hk hl hg hd) he
theorem bc (O : L1 C) {x : Str} {np pos : Pos} {v : Value} {a : Expr} {as : List Expr} (h : TL C n env ε (spliced (backTo pos (starEach (a :: as) env))) σ (Qbc C n env ε v Q X) X) (e : nsIn (hd.heap_1 C.w.params) mainGlobals x = some none := by k_is)
    (hv : bootBuiltins x = some v := by boot_by_name) (kp : ∀ σ, Kp C σ v := by first | with_reducible exact fun _ => Kp_builtin | with_reducible exact fun _ => Kp_type) (hx : x ≠ "__name__" := by decide) (hk : env.scope.kind = .function := by rfl) (hl : env.kindOf x = some .globalImplicit := by rfl)
    (hg : env.globals = mainGlobals := by rfl) (hb : env.builtins = builtinsNs := by rfl) (hd : (x == ("__debug__" : Str)) = false := by decide)
    (he : eval (.Call (.Name x np) (a :: as) [] pos) env = (do callWith pos (← eval (.Name x np) env) [] (backTo pos (starEach (a :: as) env)) []) := by rfl)
    (he2 : starEach (a :: as) env = (false, eval a env) :: starEach as env := by rfl) (hp : (backTo pos (starEach as env)).any (·.1) = false := by rfl) : EV C n env ε (.Call (.Name x np) (a :: as) [] pos) σ Q X :=
  EV_Call (bl O ⟨_, one_raw _, CW_cons (TL.mono h fun xs σ₁ q => ⟨kp _, q⟩) he2 hp⟩ e hv hx hk hl hg hb hd) he
end
section
variable {C : Cx}
theorem excIn60 (O : L1 C) : ExcIn C.K 60 := by
  refine ⟨_, _, _, _, _, _, _, _, _, _, _, _, _, _, _, _, O.k (f := fun K => K.lookup 60) (by k_is), ?_, ?_, ?_, ?_⟩ <;> decide
theorem over60 (O : L1 C) : excOver C.K 60 := ⟨_, O.k (f := fun K => clsIn K 60) (by k_is), .up _ _ (.up _ _ .base)⟩
abbrev exNs (what : Str) (at_ : V) : AO := .ns [("what", .str what), ("at", at_)]
theorem init_spec (O : L1 C) {n : Nat} {σ : Store} {e : Addr} {what : Str} {at_ : V} {args : List V} {X : AX → Store → Prop} (hx : σ e = some (.exc 60 none true)) (ha : args = [.obj e, .str what, at_] ∨ (args = [.obj e, .str what] ∧ at_ = .tup [.int 0, .int 0])) :
    CALL C (n + 3) (.ref 37) args σ (fun r σ' => r = .none ∧ ∃ d, d ≠ e ∧ σ d = none ∧ σ' = upd (upd σ e (.exc 60 (some d) true)) d (exNs what at_)) X := by
  refine CALL_bind (names := ["self", "what", "at"]) (all := [.obj e, .str what, at_]) O.ok (O.k (f := fun K => K.lookup 37) (by k_is)) (O.k (f := fun K => codeIn K _ _) (by k_is)) ?_ (by decide) (by decide) ?_
  · intro s vs K r
    rcases ha with rfl | ⟨rfl, rfl⟩
    · exact (all3 (P := fun vs => RVs s.heap [.obj e, .str what, at_] vs → ∃ ws, RVs s.heap [.obj e, .str what, at_] ws ∧ BindsTo s _ ⟨vs, []⟩ ((["self", "what", "at"] : List Str).zip ws)) (fun a b c r => ⟨[a, b, c], r, BindsTo.of_defaults (T := 30) rfl (K _ _ (O.k (f := fun K => K.lookup 30) (by k_is))) rfl rfl rfl⟩) vs r.length) r
    · refine (all2 (P := fun vs => RVs s.heap [.obj e, .str what] vs → ∃ ws, RVs s.heap [.obj e, .str what, .tup [.int 0, .int 0]] ws ∧ BindsTo s _ ⟨vs, []⟩ ((["self", "what", "at"] : List Str).zip ws)) (fun a b r => ?_) vs r.length) r
      refine ⟨[a, b, .ref 29], ?_, BindsTo.of_defaults (T := 30) rfl (K _ _ (O.k (f := fun K => K.lookup 30) (by k_is))) rfl rfl rfl⟩
      obtain ⟨v, r', e1, q1, w, r'', e2, q2, q3⟩ := r
      cases e1; cases e2
      exact ⟨_, _, rfl, q1, _, _, rfl, q2, _, _, rfl, ⟨29, _, rfl, ⟨_, K _ _ (O.k (f := fun K => K.lookup 29) (by k_is)), rfl, _, rfl⟩, ⟨_, _, rfl, ⟨_, rfl⟩, _, _, rfl, ⟨_, rfl⟩, rfl⟩⟩, rfl⟩
  intro L
  refine TS_cons (TS_Expr (EV_Method (EV_builtin O.ok (O.k (f := fun K => nsIn K mainGlobals _) (by k_is)) (by boot_by_name) ?_)))
  refine meth_type O.ok (id := "Exception.__init__") (by kernel_rfl) (by decide +kernel) (O.k (f := fun K => findCls K _ _ _) (by k_is)) (by decide +kernel) ?_
  refine CW_cons ?_
  refine TL_cons (EV_local rfl (TL_cons (EV_local rfl (TL_nil ⟨Kp_builtin, ?_⟩))))
  refine exc_init O.ok (excIn60 O) hx (by simp) ?_
  refine TS_cons (TS_SetAttrG (EV_local rfl (EV_local rfl ?_)))
  refine SA_exc0 O.ok hx (O.k (f := fun K => findIn K _ _) (by k_is)) (over60 O) (O.k (f := fun K => takerIn K _ _) (by k_is)) (O.k (f := fun K => hasDictIn K _) (by k_is)) ?_
  intro d hd hσd
  refine TS_cons (TS_SetAttrG (EV_local rfl (EV_local rfl ?_)))
  refine SA_exc1 (d := d) (fr := true) O.ok (by rw [upd_ne _ _ (Ne.symm hd), upd_self]) (upd_self _ _ _) (by simp) (O.k (f := fun K => findIn K _ _) (by k_is)) (over60 O) (O.k (f := fun K => takerIn K _ _) (by k_is)) (O.k (f := fun K => hasDictIn K _) (by k_is)) ?_
  refine TS_nil ⟨rfl, d, hd, hσd, ?_⟩
  funext b
  have : ¬ (PySem.Str.ofString "what" = PySem.Str.ofString "at") := by decide
  by_cases hb : b = d <;> simp [upd, hb, putA, this]
end
end Mine
end
section
open PySem PySem.W PyProof.Rows PySem.Calls PySem.Spec
set_option Elab.async false
set_option maxRecDepth 100000
set_option maxHeartbeats 0
namespace Mine
def Ex (S : List Addr) (σ σ' : Store) : Prop := ∀ a o, σ a = some o → a ∉ S → σ' a = some o
theorem Ex.refl {S : List Addr} {σ : Store} : Ex S σ σ := fun _ _ e _ => e
theorem Ex.trans {S : List Addr} {σ σ' σ'' : Store} (h : Ex S σ σ') (h' : Ex S σ' σ'') : Ex S σ σ'' := fun a o e n => h' a o (h a o e n) n
theorem Ex.mono {S T : List Addr} {σ σ' : Store} (h : Ex S σ σ') (i : ∀ a, a ∈ S → a ∈ T) : Ex T σ σ' := fun a o e n => h a o e fun q => n (i a q)
theorem Ex.new {S : List Addr} {σ : Store} {a : Addr} {o : AO} (h : σ a = none) : Ex S σ (upd σ a o) := fun b x e _ => by
  have : b ≠ a := fun q => by rw [q, h] at e; cases e
  rw [upd_ne _ _ this]; exact e
theorem Ex.set {S : List Addr} {σ : Store} {a : Addr} {o : AO} (h : a ∈ S) : Ex S σ (upd σ a o) := fun b x e n => by
  have : b ≠ a := fun q => n (q ▸ h)
  rw [upd_ne _ _ this]; exact e
theorem Ex.get {S : List Addr} {σ σ' : Store} (h : Ex S σ σ') {a : Addr} {o : AO} (e : σ a = some o) (n : a ∉ S := by simp) : σ' a = some o := h a o e n
theorem Ex.gone {S : List Addr} {σ σ' : Store} (h : Ex S σ σ') {a : Addr} (e : σ' a = none) (n : a ∉ S := by simp) : σ a = none := by
  cases q : σ a with
  | none => rfl
  | some o => rw [h a o q n] at e; cases e
theorem Ex.drop {S : List Addr} {σ σ' : Store} (h : Ex S σ σ') {a : Addr} (e : σ a = none) : Ex S σ (drop σ' a) := fun b o q n => by
  have : b ≠ a := fun z => by rw [z, e] at q; cases q
  rw [drop_ne _ this]; exact h b o q n
def Flt (S : List Addr) (σ : Store) (P : V → Prop) : AX → Store → Prop := fun ax σ' => ax.C = 60 ∧ (∃ w at_, σ' ax.d = some (exNs w at_) ∧ P at_) ∧ Ex S σ σ'
section
variable {C : Cx} {σ : Store} {n : Nat} {env : Env} {ε : Loc} {X : AX → Store → Prop} {QS : Fl → Loc → Store → Prop}
theorem fault_spec (O : L1 C) {what : Str} {at_ : V} {args : List V} (ha : args = [.str what, at_] ∨ (args = [.str what] ∧ at_ = .tup [.int 0, .int 0])) :
    CALL C (n + 4) (.ref 60) args σ (fun r σ' => ∃ e d, r = .obj e ∧ σ e = none ∧ σ d = none ∧ d ≠ e ∧ σ' = upd (upd σ e (.exc 60 (some d) true)) d (exNs what at_)) X := by
  refine CALL_exc O.ok (excIn60 O) (O.k (f := fun K => findIn K _ _) (by k_is)) (O.k (f := fun K => isFn K _) (by k_is)) (by rcases ha with rfl | ⟨rfl, _⟩ <;> simp) fun x hx => ?_
  refine (init_spec (n := n) (what := what) (at_ := at_) O (e := x) (upd_self _ _ _) (by rcases ha with rfl | ⟨rfl, h⟩; exact .inl rfl; exact .inr ⟨rfl, h⟩)).mono ?_ fun _ _ z => z
  rintro r σ' ⟨rfl, d, h1, h2, rfl⟩
  rw [upd_ne _ _ h1] at h2
  refine ⟨rfl, x, d, rfl, hx, h2, h1, ?_⟩
  funext b
  by_cases hb : b = d <;> by_cases hb' : b = x <;> simp [upd, hb, hb']
theorem raised {S : List Addr} {σ₀ σ : Store} {P : V → Prop} (O : L1 C) {e d : Addr} {what : Str} {at_ : V} (hs : Ex S σ₀ σ) (h1 : σ e = none) (h2 : σ d = none) (h3 : d ≠ e) (hP : P at_) (h0 : σ₀ e = none) (hX : ∀ ax σ, Flt S σ₀ P ax σ → X ax σ) :
    ∃ a c d', V.obj e = .obj a ∧ (upd (upd σ e (.exc 60 (some d) true)) d (exNs what at_)) a = some (.exc c (some d') true) ∧ ExcIn C.K c ∧ X ⟨c, d'⟩ (drop (upd (upd σ e (.exc 60 (some d) true)) d (exNs what at_)) a) := by
  refine ⟨e, 60, d, rfl, by rw [upd_ne _ _ (Ne.symm h3), upd_self], excIn60 O, hX _ _ ⟨rfl, ⟨what, at_, ?_, hP⟩, Ex.drop (fun a o q n => ?_) h0⟩⟩
  · rw [drop_ne _ h3, upd_self]
  · have q' := hs a o q n
    rw [upd_ne _ _ (fun z => by rw [z, h2] at q'; cases q'), upd_ne _ _ (fun z => by rw [z, h1] at q'; cases q')]
    exact q'
def be : Nat → Nat → List UInt8
  | 0, _ => []
  | k + 1, c => (c / 256 ^ k % 256).toUInt8 :: be k c
theorem be_length : ∀ (k c : Nat), (be k c).length = k
  | 0, _ => rfl
  | k + 1, c => by rw [be, List.length_cons, be_length k c]
theorem be_map (k c : Nat) : be k c = (List.range k).map fun i => (c / 256 ^ (k - 1 - i) % 256).toUInt8 := by
  induction k with
  | zero => rfl
  | succ k ih =>
    rw [be, ih, List.range_succ_eq_map, List.map_cons, List.map_map]
    congr 1
    apply List.map_congr_left
    intro i hi
    simp only [Function.comp_apply]
    rw [show k + 1 - 1 - (i + 1) = k - 1 - i from by omega]
theorem count_octets_spec (O : L1 C) {c w : Nat} (hw : w ≤ 4) {P : V → Prop} (hP : P (.tup [.int 0, .int 0])) :
    CALL C (n + 6) (.ref 146) [.int c, .int w] σ (fun r σ' => r = .bytes (be w c).toArray ∧ c < 256 ^ w ∧ Ex [] σ σ') (fun ax σ' => 256 ^ w ≤ c ∧ Flt [] σ P ax σ') := by
  refine CALL_cells (names := ["count", "width"]) O.ok (O.k (f := fun K => K.lookup 146) (by k_is)) (O.k (f := fun K => codeIn K _ _) (by k_is)) ?_ (by decide) (by walk_at "hk") (by decide) (by decide) ?_
  · exact all2 fun _ _ => rfl
  intro L hL
  show TS C (n + 5) _ [("width", .int w)] _ (upd σ (L + 1) (.cell (some (.int c)))) _ _
  have hL1 : σ (L + 1) = none := hL _ (Nat.le_succ _)
  refine TS_cons (TS_If (TT_Compare (EV_cell rfl (upd_self _ _ _) (EV_BinOp (EV_int (EV_local rfl ?_))))))
  have hp : (256 : Int) ^ (w : Int).toNat = ((256 ^ w : Nat) : Int) := by simp
  refine pow_ii (by omega) (by rw [show Builtin.Int.intBits 256 = 9 from by decide +kernel]; omega) (ge_ii ⟨_, rfl, ?_⟩)
  rw [hp]
  by_cases hc : 256 ^ w ≤ c
  · rw [if_pos (by simpa using (by exact_mod_cast hc : ((256 ^ w : Nat) : Int) ≤ c))]
    refine TS_cons (TS_Raise (n := n + 4) O.ok (gc O (TL_cons (EV_str (TL_nil ((fault_spec (n := n + 1) O (.inr ⟨rfl, rfl⟩)).mono ?_ fun _ _ z => z))))))
    rintro r σ' ⟨e, d, rfl, h1, h2, h3, rfl⟩
    exact raised O (S := []) (P := P) (σ₀ := σ) (X := fun ax σ' => 256 ^ w ≤ c ∧ Flt [] σ P ax σ') (Ex.new hL1) h1 h2 h3 hP ((Ex.new (S := []) hL1).gone h1) fun ax σ' z => ⟨hc, z⟩
  · rw [if_neg (by simpa using (by exact_mod_cast hc : ¬ ((256 ^ w : Nat) : Int) ≤ c))]
    refine TS_nil ?_
    show TS _ _ _ _ (execs (_ :: _) _) _ _ _
    refine TS_cons (TS_Return (bc O (TL_cons (EV_ListComp (IT_range (bl O ⟨rfl, rfl⟩)
      (TL_cons (EV_BinOp (EV_local rfl (EV_int (sub_ii (TL_cons (EV_Neg (TL_cons (EV_Neg (TL_nil ?_))) ))))))) )))))
    have hr : Builtin.Range.small ((w : Int) - 1) (-1) (-1) = true ∧ Builtin.Range.rangeSize ((w : Int) - 1) (-1) (-1) = (w : Nat) ∧ Builtin.divisionGoesByPylong (-1 - ((w : Int) - 1)) (-1) = false := by
      have : w = 0 ∨ w = 1 ∨ w = 2 ∨ w = 3 ∨ w = 4 := by omega
      rcases this with rfl | rfl | rfl | rfl | rfl <;> decide +kernel
    refine ⟨_, _, _, w, .inr (.inr ⟨rfl, by decide, hr.2.2⟩), hr.1, hr.2.1, ?_, fun Cl => ?_⟩
    · rw [upto_map]; simp; omega
    rw [upto_map]
    refine CmpW_each (fun σ' => σ' = upd σ (L + 1) (.cell (some (.int c)))) _ (fun i => .int ((c / 256 ^ (w - 1 - i) % 256 : Nat) : Int)) (fun _ _ => trivial) _ _ _ _ rfl (fun i hi ε σ' e => ?_) (fun σ' e => ?_)
    · subst e
      have hi' : i < w := by simpa using hi
      refine TA_Name (SN_local (TT_tests_nil ⟨rfl, ?_⟩))
      refine EV_BinOp (EV_BinOp (EV_cell rfl (upd_self _ _ _) (EV_BinOp (EV_int (EV_local rfl ?_)))))
      have e1 : ((w : Int) - 1 + (i : Int) * -1) = ((w - 1 - i : Nat) : Int) := by omega
      rw [e1]
      have hp' : (256 : Int) ^ (((w - 1 - i : Nat) : Int)).toNat = ((256 ^ (w - 1 - i) : Nat) : Int) := by simp
      have hpos : 0 < 256 ^ (w - 1 - i) := Nat.pos_of_ne_zero (by simp)
      refine pow_ii (by omega) (by rw [show Builtin.Int.intBits 256 = 9 from by decide +kernel]; omega) ?_
      rw [hp']
      refine div_ii (by omega) (by
        have : 256 ^ (w - 1 - i) ≤ 256 ^ 4 := Nat.pow_le_pow_right (by decide) (by omega)
        have h9 : 256 ^ (w - 1 - i) < 2 ^ 40 := Nat.lt_of_le_of_lt this (by decide)
        rw [Int.natAbs_natCast]
        exact Nat.lt_trans ((Nat.log2_lt (by omega)).mpr h9) (by decide)) ?_
      refine EV_int (mod_ii (by decide) ⟨?_, rfl⟩)
      rw [Int.fdiv_eq_ediv_of_nonneg _ (by omega), Int.fmod_eq_emod_of_nonneg _ (by decide)]
      push_cast
      rfl
    · subst e
      intro D hD
      refine TL_nil (bytes_ints (n := n + 4) (l := D) (ns := (List.range w).map fun i => ((c / 256 ^ (w - 1 - i) % 256 : Nat) : Int)) (by rw [upd_self]; simp) ?_ (by simp; omega) ?_)
      · intro k hk
        obtain ⟨i, _, rfl⟩ := List.mem_map.mp hk
        have := Nat.mod_lt (c / 256 ^ (w - 1 - i)) (show 0 < 256 by decide)
        omega
      · refine ⟨?_, by omega, (Ex.new hL1).trans (Ex.new hD)⟩
        rw [be_map]
        unfold byteList
        rw [List.map_map]
        rfl
end
end Mine
end
section
open PySem PySem.W PyProof.Rows PySem.Calls PySem.Spec
set_option Elab.async false
set_option maxRecDepth 100000
set_option maxHeartbeats 0
namespace Mine
section
variable {C : Cx} {σ : Store} {n : Nat} {env : Env} {ε : Loc} {X : AX → Store → Prop} {QS : Fl → Loc → Store → Prop}
theorem strLt_one (a b : Nat) : strLt ⟨#[a]⟩ ⟨#[b]⟩ = decide (a < b) := by
  have h := strLt_iff ⟨#[a]⟩ ⟨#[b]⟩
  simp only [List.cons_lt_cons_iff, List.lt_irrefl, and_false, or_false] at h
  rw [Bool.eq_iff_iff, h]; simp
theorem row_octets_spec (O : L1 C) {b : Array UInt8} (hz : b.size < 65536) :
    CALL C (n + 7) (.ref 160) [.bytes b] σ (fun r σ' => r = .bytes ((be 2 b.size).toArray ++ b) ∧ Ex [] σ σ') X := by
  refine CALL_def (names := ["row"]) O.ok (O.k (f := fun K => K.lookup 160) (by k_is)) (O.k (f := fun K => codeIn K _ _) (by k_is)) ?_ (by decide) (by decide) ?_
  · exact all1 fun _ => rfl
  intro L
  refine TS_cons (TS_Return (EV_BinOp (gc O (TL_cons (bc O (TL_cons (EV_local rfl (TL_nil (len_b (by omega) (TL_cons (EV_int (TL_nil ?_))))))))))))
  refine (count_octets_spec (n := n) O (c := b.size) (w := 2) (P := fun _ => True) (by decide) trivial).mono ?_ fun ax σ' z => absurd z.1 (by show ¬ 65536 ≤ b.size; omega)
  rintro r σ' ⟨rfl, _, hs⟩
  refine EV_local rfl (add_bb (by simp [be_length]; omega) ⟨rfl, hs⟩)
def goodPath (x : Str) : Prop := (∀ c ∈ x.cps.toList, 32 ≤ c ∧ c ≤ 126) ∧ x.cps.size < 256
def pathBytes (x : Str) : List UInt8 := be 1 x.cps.size ++ x.cps.toList.map fun c => c.toUInt8
theorem path_octets_spec (O : L1 C) {x : Str} (hz : x.cps.size ≤ 1000) {P : V → Prop} (hP : P (.tup [.int 0, .int 0])) :
    CALL C (n + 8) (.ref 153) [.str x] σ (fun r σ' => goodPath x ∧ r = .bytes (pathBytes x).toArray ∧ Ex [] σ σ') (fun ax σ' => ¬ goodPath x ∧ Flt [] σ P ax σ') := by
  refine CALL_def (names := ["path"]) O.ok (O.k (f := fun K => K.lookup 153) (by k_is)) (O.k (f := fun K => codeIn K _ _) (by k_is)) ?_ (by decide) (by decide) ?_
  · exact all1 fun _ => rfl
  intro L
  refine TS_cons (TS_For rfl (EV_local rfl ⟨_, _, σ, goes_str, fun _ _ e => e, trivial, ?_⟩))
  refine ForW_each (fun i ε σ' => ε.lookup ("path" : Str) = some (.str x) ∧ σ' = σ ∧ ∀ c ∈ x.cps.toList.take i, 32 ≤ c ∧ c ≤ 126) _ _ (fun i c hc ε σ' ⟨e1, e2, e3⟩ => ?_) (fun ε σ' ⟨e1, e2, e3⟩ => ?_) ⟨rfl, rfl, by simp⟩
  · subst e2
    refine TA_Name (SN_local ?_)
    refine TS_cons (TS_If (TT_Not (TT_Chain (EV_str (EV_local rfl (le_ss ⟨_, rfl, ?_⟩))))))
    rw [show (Str.ofString " ") = ⟨#[32]⟩ from rfl, strLt_one]
    have hm := List.mem_of_getElem? hc
    by_cases hg : 32 ≤ c ∧ c ≤ 126
    · rw [if_pos (by simp; omega)]
      refine EV_str (le_ss ⟨_, rfl, ?_⟩)
      rw [show (Str.ofString "~") = ⟨#[126]⟩ from rfl, strLt_one]
      rw [if_neg (by simp; omega)]
      refine TS_nil ?_
      show TS _ _ _ _ (execs [] _) _ _ _
      refine TS_nil ⟨trivial, e1, rfl, ?_⟩
      intro d hd
      rw [List.take_add_one, hc] at hd
      rcases List.mem_append.mp hd with hd | hd
      · exact e3 d hd
      · simp at hd; subst hd; exact hg
    · have bad : ∀ env' ε' (QS : Fl → Loc → Store → Prop) e1 e2 e3 e4 e5 e6, env'.kindOf "FileFault" = some .globalImplicit → env'.scope.kind = .function → env'.globals = mainGlobals →
          TS C (n + 7) env' ε' (execs [.Raise (some (.Call (.Name "FileFault" e1) [.Constant (.str e2) e3 e4] [] e5)) none e6] env') σ' QS (fun ax σ₂ => ¬ goodPath x ∧ Flt [] σ' P ax σ₂) := by
        intro env' ε' QS e1 e2 e3 e4 e5 e6 h1 h2 h3
        refine TS_cons (TS_Raise (n := n + 6) O.ok (gc O (TL_cons (EV_str (TL_nil ((fault_spec (n := n + 3) O (.inr ⟨rfl, rfl⟩)).mono ?_ fun _ _ z => z)))) (hk := h2) (hl := h1) (hg := h3)))
        rintro r σ₂ ⟨e, d, rfl, h1, h2, h3, rfl⟩
        exact raised O (S := []) (P := P) (σ₀ := σ') (X := fun ax σ₂ => ¬ goodPath x ∧ Flt [] σ' P ax σ₂) Ex.refl h1 h2 h3 hP h1 fun ax σ₂ z => ⟨fun g => hg (g.1 c hm), z⟩
      by_cases h1 : c < 32
      · rw [if_neg (by simp; omega)]
        exact bad _ _ _ _ _ _ _ _ _ rfl rfl rfl
      · rw [if_pos (by simp; omega)]
        refine EV_str (le_ss ⟨_, rfl, ?_⟩)
        rw [show (Str.ofString "~") = ⟨#[126]⟩ from rfl, strLt_one]
        rw [if_pos (by simp; omega)]
        exact bad _ _ _ _ _ _ _ _ _ rfl rfl rfl
  · subst e2
    have e3' : ∀ c ∈ x.cps.toList, 32 ≤ c ∧ c ≤ 126 := by rw [List.take_length] at e3; exact e3
    show TS _ _ _ _ (execs (_ :: _) _) _ _ _
    refine TS_cons (TS_Return (EV_BinOp (gc O (TL_cons (bc O (TL_cons (EV_local e1 (TL_nil (len_s (by show x.cps.size ≤ _; omega) (TL_cons (EV_int (TL_nil ?_))))))))))))
    refine (count_octets_spec (n := n + 1) O (c := x.cps.size) (w := 1) (P := P) (by decide) hP).mono ?_ fun ax σ' z => ⟨fun g => absurd g.2 (by have := z.1; omega), z.2⟩
    rintro r σ₂ ⟨rfl, h2, hs⟩
    refine EV_Method (EV_local e1 (meth_str PySem.F.slot_str_encode PySem.F.type_str_encode (CW_cons (TL_cons (EV_str (TL_nil ⟨Kp_builtin, encode_s (fun c hc => ?_) (by omega) ?_⟩))))))
    · have := e3' c (by simpa using hc); omega
    · refine add_bb (by simp [be_length]; omega) ⟨⟨e3', by omega⟩, ?_, hs⟩
      unfold pathBytes
      congr 1
      apply Array.ext'
      simp
end
end Mine
end
section
open PySem PySem.W PyProof.Rows PySem.Calls PySem.Spec
set_option Elab.async false
set_option maxRecDepth 100000
set_option maxHeartbeats 0
namespace Mine
section
variable {K β : Type} [DecidableEq K]
def stB (es : List (K × β)) (k : K) (x : β) : List (K × β) := if es.any (fun kv => kv.1 = k) then es.map (fun kv => if kv.1 = k then (kv.1, x) else kv) else es ++ [(k, x)]
def vlB (es : List (K × β)) (k : K) : Option β := (es.find? fun kv => kv.1 = k).map (·.2)
theorem stB_map {γ : Type} (f : β → γ) (es : List (K × β)) (k : K) (x : β) : stB (es.map fun p => (p.1, f p.2)) k (f x) = (stB es k x).map fun p => (p.1, f p.2) := by
  unfold stB
  have : ((es.map fun p => (p.1, f p.2)).any fun kv => decide (kv.1 = k)) = es.any fun kv => decide (kv.1 = k) := by rw [List.any_map]; rfl
  rw [this]
  split
  · rw [List.map_map, List.map_map]
    apply List.map_congr_left
    intro p _
    simp only [Function.comp_apply]
    split <;> rfl
  · simp
theorem vlB_map {γ : Type} (f : β → γ) (es : List (K × β)) (k : K) : vlB (es.map fun p => (p.1, f p.2)) k = (vlB es k).map f := by
  unfold vlB
  rw [List.find?_map]
  have : ((fun kv : K × γ => decide (kv.1 = k)) ∘ fun p : K × β => (p.1, f p.2)) = fun kv : K × β => decide (kv.1 = k) := rfl
  rw [this]
  cases List.find? (fun kv : K × β => decide (kv.1 = k)) es <;> rfl
theorem vlB_mem {es : List (K × β)} {k : K} : k ∈ es.map (·.1) → ∃ x, vlB es k = some x ∧ (k, x) ∈ es := by
  intro h
  induction es with
  | nil => cases h
  | cons p es ih =>
    unfold vlB at *
    rw [List.find?_cons]
    by_cases e : p.1 = k
    · exact ⟨p.2, by simp [e], by rw [← e]; exact .head _⟩
    · simp only [e, decide_false]
      rw [List.map_cons, List.mem_cons] at h
      obtain ⟨x, h1, h2⟩ := ih (h.resolve_left (Ne.symm e))
      exact ⟨x, h1, .tail _ h2⟩
theorem stB_length (es : List (K × β)) (k : K) (x : β) : (stB es k x).length ≤ es.length + 1 := by
  unfold stB; split <;> simp
end
inductive Cont where
  | seq (rows : List (Array UInt8))
  | rel (es : List (Int × Array UInt8))
abbrev Files := List (Str × (Str × Cont))
def CAt (σ : Store) (c : Addr) : Cont → Prop
  | .seq rows => σ c = some (.list (rows.map .bytes))
  | .rel es => ∃ ep, σ c = some (.dictI (es.map fun p => (p.1, .bytes p.2)) ep)
def FV (σ : Store) (v : V) (f : Str × Cont) : Prop := ∃ c, v = .tup [.str f.1, .obj c] ∧ CAt σ c f.2
inductive FS (σ : Store) : List (Str × V) → Files → Prop
  | nil : FS σ [] []
  | cons {p : Str} {v : V} {f : Str × Cont} {es fs} : FV σ v f → FS σ es fs → FS σ ((p, v) :: es) ((p, f) :: fs)
inductive SHx (σ : Store) (x D : Addr) (fs : Files) : Prop
  | mk (d : Addr) (es : List (Str × V)) (ep : Nat) (h1 : σ x = some (.inst 137 d)) (h2 : σ d = some (.ns [("files", .obj D)])) (h3 : σ D = some (.dictS es ep)) (h4 : FS σ es fs)
section
variable {σ σ' : Store} {S : List Addr}
theorem CAt.ex {c : Addr} (h : Ex S σ σ') (n : c ∉ S) : ∀ {k : Cont}, CAt σ c k → CAt σ' c k
  | .seq _, e => h _ _ e n
  | .rel _, ⟨ep, e⟩ => ⟨ep, h _ _ e n⟩
def Off (σ : Store) (c : Addr) : Prop := σ c = none ∨ (∃ es ep, σ c = some (.dictS es ep)) ∨ ∃ v fs, σ c = some (.ns (("octets", v) :: fs))
theorem CAt.ne {c : Addr} (h : Off σ c) : ∀ {k : Cont}, ¬ CAt σ c k
  | .seq _, e => by have e' : σ c = _ := e; rcases h with h | ⟨es, ep, h⟩ | ⟨v, fs, h⟩ <;> (rw [h] at e'; cases e')
  | .rel _, ⟨_, e⟩ => by have e' : σ c = _ := e; rcases h with h | ⟨es, ep, h⟩ | ⟨v, fs, h⟩ <;> (rw [h] at e'; cases e')
theorem FV.ex {v : V} {f : Str × Cont} (h : Ex S σ σ') (hS : ∀ c ∈ S, Off σ c) : FV σ v f → FV σ' v f
  | ⟨c, e, k⟩ => ⟨c, e, k.ex h fun q => k.ne (hS c q)⟩
theorem FS.ex (h : Ex S σ σ') (hS : ∀ c ∈ S, Off σ c) : ∀ {es : List (Str × V)} {fs : Files}, FS σ es fs → FS σ' es fs
  | _, _, .nil => .nil
  | _, _, .cons a b => .cons (a.ex h hS) (b.ex h hS)
theorem SHx.ex {x D : Addr} {fs : Files} (s : SHx σ x D fs) (h : Ex S σ σ') (hS : ∀ c ∈ S, c ≠ D ∧ Off σ c) : SHx σ' x D fs := by
  obtain ⟨d, es, ep, h1, h2, h3, h4⟩ := s
  refine ⟨d, es, ep, h _ _ h1 fun q => ?_, h _ _ h2 fun q => ?_, h _ _ h3 fun q => (hS _ q).1 rfl, h4.ex h fun c q => (hS c q).2⟩
  · rcases (hS _ q).2 with q | ⟨es, ep, q⟩ | ⟨v, fs, q⟩ <;> (rw [h1] at q; cases q)
  · rcases (hS _ q).2 with q | ⟨es, ep, q⟩ | ⟨v, fs, q⟩
    · rw [h2] at q; cases q
    · rw [h2] at q; cases q
    · rw [h2] at q
      injection q with q
      injection q with q
      injection q with q
      injection q with q _
      exact absurd q (by decide)
theorem SHx.ex0 {x D : Addr} {fs : Files} (s : SHx σ x D fs) (h : Ex [] σ σ') : SHx σ' x D fs := s.ex h (by simp)
theorem FS.keys : ∀ {es : List (Str × V)} {fs : Files}, FS σ es fs → es.map (·.1) = fs.map (·.1)
  | _, _, .nil => rfl
  | _, _, .cons _ b => by simp [b.keys]
theorem FS.length : ∀ {es : List (Str × V)} {fs : Files}, FS σ es fs → es.length = fs.length
  | _, _, .nil => rfl
  | _, _, .cons _ b => by simp [b.length]
theorem FS.value {p : Str} : ∀ {es : List (Str × V)} {fs : Files}, FS σ es fs → match vlB fs p with | some f => ∃ v, valueA es p = some v ∧ FV σ v f | none => valueA es p = none
  | _, _, .nil => rfl
  | _, _, .cons (p := q) (v := v) (f := f) (es := es) (fs := fs) a b => by
    have ih := b.value (p := p)
    unfold vlB valueA at *
    simp only [List.find?_cons]
    by_cases e : q = p
    · simp only [e, decide_true]; exact ⟨v, rfl, a⟩
    · simp only [e, decide_false]; exact ih
theorem FS.any {p : Str} : ∀ {es : List (Str × V)} {fs : Files}, FS σ es fs → (es.any fun kv => decide (kv.1 = p)) = fs.any fun kv => decide (kv.1 = p)
  | _, _, .nil => rfl
  | _, _, .cons a b => by simp [b.any]
theorem FS.mapp {p : Str} {v : V} {f : Str × Cont} (hv : FV σ v f) : ∀ {es : List (Str × V)} {fs : Files}, FS σ es fs → FS σ (es.map fun kv => if kv.1 = p then (kv.1, v) else kv) (fs.map fun kv => if kv.1 = p then (kv.1, f) else kv)
  | _, _, .nil => .nil
  | _, _, .cons (p := q) a b => by
    simp only [List.map_cons]
    by_cases e : q = p
    · simp only [e, if_true]; exact .cons hv (b.mapp hv)
    · simp only [e, if_false]; exact .cons a (b.mapp hv)
theorem FS.snoc {p : Str} {v : V} {f : Str × Cont} (hv : FV σ v f) : ∀ {es : List (Str × V)} {fs : Files}, FS σ es fs → FS σ (es ++ [(p, v)]) (fs ++ [(p, f)])
  | _, _, .nil => .cons hv .nil
  | _, _, .cons a b => .cons a (b.snoc hv)
theorem FS.put {p : Str} {v : V} {f : Str × Cont} (hv : FV σ v f) {es : List (Str × V)} {fs : Files} (h : FS σ es fs) : FS σ (storedA es p v) (stB fs p f) := by
  unfold storedA stB
  rw [h.any]
  split
  · exact h.mapp hv
  · exact h.snoc hv
end
section
variable {C : Cx} {σ : Store} {n : Nat} {env : Env} {ε : Loc} {Q : V → Store → Prop} {X : AX → Store → Prop} {QS : Fl → Loc → Store → Prop}
theorem files_at (O : L1 C) {x d : Addr} {D : Addr} {ex : Bool} (hx : σ x = some (.inst 137 d)) (hn : σ d = some (.ns [("files", .obj D)])) (h : Q (.obj D) σ) : OP1 C n env ε (fun v => getAttr v "files" ex) (.obj x) σ Q X :=
  attr_own O.ok hx hn (y := .obj D) rfl rfl (O.k (f := fun K => plainGet K 137 _) (by k_is)) (O.k (f := fun K => hasDictIn K 137) (by k_is)) (O.k (f := fun K => findIn K (.ref 137) _) (by k_is)) (O.k (f := fun K => noGet K _) (by k_is)) h
theorem sh_meth (O : L1 C) {x d : Addr} {D f : Addr} {nm : Str} {pl : Sem Bool} {QM : Value → List V → Store → Prop} (hx : σ x = some (.inst 137 d)) (hn : σ d = some (.ns [("files", .obj D)])) (h : QM (.ref f) [.obj x] σ)
    (hl : ([("files", V.obj D)] : List (Str × V)).lookup nm = none := by rfl) (h1 : plainGet (hd.heap_1 C.w.params) 137 nm = true := by k_is) (h2 : findIn (hd.heap_1 C.w.params) (.ref 137) nm = some (some (.ref f)) := by k_is)
    (h3 : isFn (hd.heap_1 C.w.params) (.ref f) = true := by k_is) : OPM C n env ε nm pl (.obj x) σ QM X :=
  meth_inst O.ok hx hn hl (O.k (f := fun K => plainGet K 137 nm) h1) (O.k (f := fun K => findIn K (.ref 137) nm) h2) (O.k (f := fun K => isFn K (.ref f)) h3) h
inductive PthQ (σ : Store) (fs : Files) (r : V) (σ' : Store) : Prop
  | mk (l : Addr) (h1 : r = .obj l) (h2 : σ l = none) (h3 : σ' l = some (.list ((sortS (fs.map (·.1))).map .str))) (h4 : Ex [] σ σ')
theorem paths_spec (O : L1 C) {x D : Addr} {fs : Files} (s : SHx σ x D fs) (hz : fs.length < 64) :
    CALL C (n + 3) (.ref 84) [.obj x] σ (PthQ σ fs) X := by
  obtain ⟨d, es, ep, h1, h2, h3, h4⟩ := s
  refine CALL_def (names := ["self"]) O.ok (O.k (f := fun K => K.lookup 84) (by k_is)) (O.k (f := fun K => codeIn K _ _) (by k_is)) ?_ (by decide) (by decide) ?_
  · exact all1 fun _ => rfl
  intro L
  refine TS_cons (TS_Return (bc O (TL_cons (EV_Attr (EV_local rfl (files_at O h1 h2 (TL_nil (sorted_dictS h3 (by rw [h4.length]; exact hz) ?_))))))))
  intro r hr
  refine ⟨r, rfl, hr, ?_, Ex.new hr⟩
  rw [upd_self, h4.keys]
end
end Mine
end
section
open PySem PySem.W PyProof.Rows PySem.Calls PySem.Spec
set_option Elab.async false
set_option maxRecDepth 100000
set_option maxHeartbeats 0
namespace Mine
section
variable {C : Cx} {σ : Store} {n : Nat} {env : Env} {ε : Loc} {Q : V → Store → Prop} {X : AX → Store → Prop} {QS : Fl → Loc → Store → Prop}
theorem kind_of_spec (O : L1 C) {x D : Addr} {fs : Files} {p : Str} (s : SHx σ x D fs) :
    CALL C (n + 2) (.ref 91) [.obj x, .str p] σ (fun r σ' => r = .str ((vlB fs p).elim "" (·.1)) ∧ σ' = σ) X := by
  obtain ⟨d, es, ep, h1, h2, h3, h4⟩ := s
  refine CALL_def (names := ["self", "path"]) O.ok (O.k (f := fun K => K.lookup 91) (by k_is)) (O.k (f := fun K => codeIn K _ _) (by k_is)) ?_ (by decide) (by decide) ?_
  · exact all2 fun _ _ => rfl
  intro L
  have hv := h4.value (p := p)
  refine TS_cons (TS_Return (EV_IfExp (TT_Compare (EV_local rfl (EV_Attr (EV_local rfl (files_at O h1 h2 (in_dictS h3 ⟨_, rfl, ?_⟩))))))))
  cases q : vlB fs p with
  | none =>
    rw [q] at hv
    rw [hv]
    exact EV_str ⟨rfl, rfl⟩
  | some f =>
    rw [q] at hv
    obtain ⟨v, e1, c, rfl, e2⟩ := hv
    rw [e1]
    exact EV_Sub (EV_Sub (EV_Attr (EV_local rfl (files_at O h1 h2 (EV_local rfl (sub_dictS h3 e1 (EV_int (sub_tup (j := 0) rfl rfl ⟨rfl, rfl⟩))))))))
theorem content_of_spec (O : L1 C) {x D : Addr} {fs : Files} {p : Str} {f : Str × Cont} (s : SHx σ x D fs) (hf : vlB fs p = some f) :
    CALL C (n + 2) (.ref 98) [.obj x, .str p] σ (fun r σ' => (∃ c, r = .obj c ∧ CAt σ c f.2) ∧ σ' = σ) X := by
  obtain ⟨d, es, ep, h1, h2, h3, h4⟩ := s
  refine CALL_def (names := ["self", "path"]) O.ok (O.k (f := fun K => K.lookup 98) (by k_is)) (O.k (f := fun K => codeIn K _ _) (by k_is)) ?_ (by decide) (by decide) ?_
  · exact all2 fun _ _ => rfl
  intro L
  have hv := h4.value (p := p)
  rw [hf] at hv
  obtain ⟨v, e1, c, rfl, e2⟩ := hv
  refine TS_cons (TS_If (TT_Compare (EV_local rfl (EV_Attr (EV_local rfl (files_at O h1 h2 (notin_dictS h3 ⟨_, rfl, ?_⟩)))))))
  rw [e1]
  refine TS_nil ?_
  show TS _ _ _ _ (execs (_ :: _) _) _ _ _
  exact TS_cons (TS_Return (EV_Sub (EV_Sub (EV_Attr (EV_local rfl (files_at O h1 h2 (EV_local rfl (sub_dictS h3 e1 (EV_int (sub_tup (j := 1) rfl rfl ⟨⟨c, rfl, e2⟩, rfl⟩)))))))) ))
def kinds : List Str := ["sequential", "relative", "indexed"]
def emptyC (k : Str) : Cont := if k = "relative" then .rel [] else .seq []
theorem EV_kinds (O : L1 C) {pos : Pos} (h : Q (.tup (kinds.map .str)) σ) (hk : env.scope.kind = .function := by rfl) (hl : env.kindOf "KINDS" = some .globalImplicit := by rfl) (hg : env.globals = mainGlobals := by rfl) : EV C n env ε (.Name "KINDS" pos) σ Q X := by
  refine EV_global (y := .tup (kinds.map .str)) O.ok (O.k (f := fun K => nsIn K mainGlobals "KINDS") (by k_is)) (fun h K => ?_) h hk hl hg
  exact ⟨_, _, rfl, ⟨_, K _ _ (O.k (f := fun K => K.lookup _) (by k_is)), rfl, _, rfl⟩, ⟨_, _, rfl, ⟨_, rfl⟩, _, _, rfl, ⟨_, rfl⟩, _, _, rfl, ⟨_, rfl⟩, rfl⟩⟩
end
end Mine
end
section
open PySem PySem.W PyProof.Rows PySem.Calls PySem.Spec
set_option Elab.async false
set_option maxRecDepth 100000
set_option maxHeartbeats 0
namespace Mine
section
variable {C : Cx} {σ : Store} {n : Nat} {env : Env} {ε : Loc} {Q : V → Store → Prop} {X : AX → Store → Prop} {QS : Fl → Loc → Store → Prop}
theorem begin_spec (O : L1 C) {x D : Addr} {fs : Files} {p k : Str} (s : SHx σ x D fs) (hz : fs.length ≤ 1000) (hkz : k.length ≤ 1000) {P : V → Prop} (hP : P (.tup [.int 0, .int 0])) :
    CALL C (n + 6) (.ref 105) [.obj x, .str p, .str k] σ (fun r σ' => k ∈ kinds ∧ ∃ c, r = .obj c ∧ σ c = none ∧ CAt σ' c (emptyC k) ∧ Ex [D] σ σ' ∧
      ∀ σ'' cont, Ex [c] σ' σ'' → CAt σ'' c cont → SHx σ'' x D (stB fs p (k, cont))) (fun ax σ' => k ∉ kinds ∧ Flt [] σ P ax σ') := by
  obtain ⟨d, es, ep, h1, h2, h3, h4⟩ := s
  refine CALL_def (names := ["self", "path", "kind"]) O.ok (O.k (f := fun K => K.lookup 105) (by k_is)) (O.k (f := fun K => codeIn K _ _) (by k_is)) ?_ (by decide) (by decide) ?_
  · exact all3 fun _ _ _ => rfl
  intro L
  refine TS_cons (TS_If (TT_Compare (EV_local rfl (EV_kinds O (notin_strs ⟨_, rfl, ?_⟩)))))
  have hany : kinds.any (· == k) = decide (k ∈ kinds) := by
    rw [Bool.eq_iff_iff, List.any_eq_true]
    simp
  rw [hany]
  by_cases hk : k ∈ kinds
  · rw [if_neg (by simp [hk])]
    refine TS_nil ?_
    show TS _ _ _ _ (execs (_ :: _) _) _ _ _
    refine TS_cons (TS_Assign (TV.mono (Q := fun y σ₁ => ∃ c, y = .obj c ∧ σ c = none ∧ Ex [] σ σ₁ ∧ CAt σ₁ c (emptyC k)) ?_ (fun y σ₁ z => ?_) fun _ _ z => z))
    · refine EV_IfExp (TT_Compare (EV_local rfl (EV_str (eq_ss ⟨_, rfl, ?_⟩))))
      unfold emptyC
      by_cases hr : k = "relative"
      · rw [if_pos (by simpa using hr), if_pos hr]
        exact EV_Dict0I O.ok fun c hc => ⟨c, rfl, hc, Ex.new hc, 0, upd_self _ _ _⟩
      · rw [if_neg (by simpa using hr), if_neg hr]
        exact EV_List (TL_nil ⟨by simp, fun c hc => ⟨c, rfl, hc, Ex.new hc, upd_self _ _ _⟩⟩)
    obtain ⟨c, rfl, hc, hs, hca⟩ := z
    have g1 := hs.get h1; have g2 := hs.get h2; have g3 := hs.get h3
    refine SN_local ?_
    show TS _ _ _ _ (execs (_ :: _) _) _ _ _
    refine TS_cons (TS_SetSub (EV_Tuple (TL_cons (EV_local rfl (TL_cons (EV_local rfl (TL_nil ⟨by simp, ?_⟩)))))))
    refine EV_Attr (EV_local rfl (files_at O g1 g2 (EV_local rfl (set_dictS g3 (by rw [h4.length]; omega) fun ep' => ?_))))
    have hcD : c ≠ D := fun q => by rw [q, h3] at hc; cases hc
    have hdD : d ≠ D := fun q => by rw [q, h3] at h2; cases h2
    have hxD : x ≠ D := fun q => by rw [q, h3] at h1; cases h1
    show TS _ _ _ _ (execs (_ :: _) _) _ _ _
    have hE : Ex [D] σ (upd σ₁ D (.dictS (storedA es p (.tup [.str k, .obj c])) ep')) := (hs.mono (by simp)).trans (Ex.set (by simp))
    refine TS_cons (TS_Return (EV_local rfl ⟨hk, c, rfl, hc, ?_, hE, fun σ'' cont hs'' hc'' => ?_⟩))
    · exact hca.ex (Ex.set (S := [D]) (by simp)) (by simpa using hcD)
    · have hcn : ∀ a o, σ a = some o → a ∉ [c] := fun a o e q => by
        rw [List.mem_singleton] at q; rw [q, hc] at e; cases e
      refine ⟨d, _, ep', hs'' _ _ (by rw [upd_ne _ _ hxD]; exact g1) (hcn _ _ h1), hs'' _ _ (by rw [upd_ne _ _ hdD]; exact g2) (hcn _ _ h2), hs'' _ _ (upd_self _ _ _) (hcn _ _ h3), FS.put (f := (k, cont)) ⟨c, rfl, hc''⟩ ?_⟩
      refine h4.ex (S := [D, c]) ((hE.mono (by simp)).trans (hs''.mono (by simp))) ?_
      intro a ha
      simp only [List.mem_cons, List.not_mem_nil, or_false] at ha
      rcases ha with rfl | rfl
      · exact .inr (.inl ⟨_, _, h3⟩)
      · exact .inl hc
  · rw [if_pos (by simp [hk])]
    refine TS_cons (TS_Raise (n := n + 4) O.ok (gc O (TL_cons (EV_BinOp (EV_str (EV_local rfl (add_ss ?_ (TL_nil ((fault_spec (n := n + 1) O (.inr ⟨rfl, rfl⟩)).mono ?_ fun _ _ z => z)))))))))
    · have : (Str.ofString "no kind of files: ").length = 18 := by decide
      omega
    rintro r σ₂ ⟨e, d', rfl, e1, e2, e3, rfl⟩
    exact raised O (S := []) (P := P) (σ₀ := σ) (X := fun ax σ₂ => k ∉ kinds ∧ Flt [] σ P ax σ₂) Ex.refl e1 e2 e3 hP e1 fun ax σ₂ z => ⟨hk, z⟩
end
end Mine
end
section
open PySem PySem.W PyProof.Rows PySem.Calls PySem.Spec
set_option Elab.async false
set_option maxRecDepth 100000
set_option maxHeartbeats 0
namespace Mine
def RowsV (σ : Store) (v : V) (items : List V) : Prop := (∃ l, v = .obj l ∧ σ l = some (.list items)) ∨ v = .tup items
theorem RowsV.ex {S : List Addr} {σ σ' : Store} {v : V} {items : List V} (r : RowsV σ v items) (h : Ex S σ σ') (hS : ∀ a ∈ S, Off σ a) : RowsV σ' v items := by
  rcases r with ⟨l, rfl, e⟩ | rfl
  · exact .inl ⟨l, rfl, h _ _ e fun q => by rcases hS _ q with z | ⟨_, _, z⟩ | ⟨_, _, z⟩ <;> (rw [e] at z; cases z)⟩
  · exact .inr rfl
theorem RowsV.goes {C : Cx} {σ : Store} {v : V} {items : List V} (r : RowsV σ v items) : ∃ Inv, Goes C v items Inv σ ∧ ∀ σ', RowsV σ' v items → Inv σ' := by
  rcases r with ⟨l, rfl, e⟩ | rfl
  · exact ⟨_, goes_list e, fun σ' z => by
      rcases z with ⟨l', q, e'⟩ | q
      · cases q; exact e'
      · cases q⟩
  · exact ⟨_, goes_tup, fun _ _ => trivial⟩
theorem Ex.fresh {S : List Addr} {σ σ₁ σ' : Store} {c : Addr} (h : Ex S σ σ₁) (h' : Ex [c] σ₁ σ') (hc : σ c = none) : Ex S σ σ' := fun a o e q =>
  h' a o (h a o e q) fun z => by rw [List.mem_singleton] at z; rw [z, hc] at e; cases e
section
variable {C : Cx} {σ : Store} {n : Nat} {env : Env} {ε : Loc} {Q : V → Store → Prop} {X : AX → Store → Prop} {QS : Fl → Loc → Store → Prop}
inductive LoI (c : Addr) (k : Str) (rows : List (Array UInt8)) (σ₁ : Store) (i : Nat) (ε : Loc) (σ' : Store) : Prop
  | mk (e1 : ε.lookup ("kind" : Str) = some (.str k)) (e2 : ε.lookup ("content" : Str) = some (.obj c)) (e3 : Ex [c] σ₁ σ') (e4 : σ' c = some (.list ((rows.take i).map .bytes)))
theorem lay_other_spec (O : L1 C) {x D : Addr} {fs : Files} {p k : Str} {rv : V} {rows : List (Array UInt8)} (s : SHx σ x D fs) (hz : fs.length ≤ 1000) (hkz : k.length ≤ 1000) (hr : RowsV σ rv (rows.map .bytes)) (hrz : rows.length ≤ 1000) (hk : k ≠ "relative") {P : V → Prop} (hP : P (.tup [.int 0, .int 0])) :
    CALL C (n + 8) (.ref 110) [.obj x, .str p, .str k, rv] σ (fun r σ' => k ∈ kinds ∧ r = .none ∧ SHx σ' x D (stB fs p (k, .seq rows)) ∧ Ex [D] σ σ') (fun ax σ' => k ∉ kinds ∧ Flt [] σ P ax σ') := by
  have s0 := s
  obtain ⟨d, es, ep, h1, h2, h3, h4⟩ := s
  refine CALL_def (names := ["self", "path", "kind", "rows"]) O.ok (O.k (f := fun K => K.lookup 110) (by k_is)) (O.k (f := fun K => codeIn K _ _) (by k_is)) ?_ (by decide) (by decide) ?_
  · exact all4 fun _ _ _ _ => rfl
  intro L
  refine TS_cons (TS_If (TT_BoolOp (TT_And (TT_Compare (EV_local rfl (EV_str (eq_ss ⟨_, rfl, ?_⟩)))))))
  rw [if_neg (by simpa using hk)]
  refine TS_nil ?_
  show TS _ _ _ _ (execs (_ :: _) _) _ _ _
  refine TS_cons (TS_Assign (EV_Method (EV_local rfl (sh_meth O h1 h2 (CW_cons (TL_cons (EV_local rfl (TL_cons (EV_local rfl (TL_nil ⟨Kp_K O.ok (O.k (f := fun K => keepIn K _) (by k_is)), OPL_call ((begin_spec (n := n + 1) O s0 hz hkz hP).mono ?_ fun _ _ z => z)⟩))))))))))
  rintro r σ₁ ⟨hkk, c, rfl, hc, hca, hE, hfin⟩
  refine SN_local ?_
  show TS _ _ _ _ (execs (_ :: _) _) _ _ _
  have hOff : ∀ a ∈ [D], Off σ a := by simp; exact .inr (.inl ⟨_, _, h3⟩)
  have hca' : σ₁ c = some (.list []) := by unfold emptyC at hca; rw [if_neg hk] at hca; exact hca
  obtain ⟨Inv, hg, hi⟩ := (hr.ex hE hOff).goes (C := C)
  have hr1 := hr.ex hE hOff
  refine TS_cons (TS_For rfl (EV_local rfl ⟨_, _, σ₁, hg, fun _ _ e => e, hg.1, ?_⟩))
  have hcn : ∀ a ∈ [D, c], Off σ a := by
    intro a ha
    simp only [List.mem_cons, List.not_mem_nil, or_false] at ha
    rcases ha with rfl | rfl
    · exact .inr (.inl ⟨_, _, h3⟩)
    · exact .inl hc
  refine ForW_each (LoI c k rows σ₁) _ _ (fun i b hb ε σ' ⟨e1, e2, e3, e4⟩ => ?_) (fun ε σ' ⟨e1, e2, e3, e4⟩ => ?_) ⟨rfl, rfl, Ex.refl, by simpa using hca'⟩
  · refine TA_Name (SN_local ?_)
    refine TS_cons (TS_If (TT_Compare (EV_local e1 (EV_str (eq_ss ⟨_, rfl, ?_⟩)))))
    rw [if_neg (by simpa using hk)]
    refine TS_cons (TS_Expr (EV_Method (EV_local e2 (meth_list slot_list_append type_list_append e4 (CW_cons (TL_cons ?_))))))
    refine bc O (TL_cons (EV_local rfl (TL_nil (bytes_bytes (TL_nil ⟨Kp_builtin, append_l e4 (by simp; omega) ?_⟩)))))
    refine TS_nil ?_
    have e5 : Ex [c] σ₁ (upd σ' c (.list ((rows.take i).map .bytes ++ [.bytes b]))) := e3.trans (Ex.set (by simp))
    refine TS_nil ⟨hi _ (hr.ex ((hE.mono (by simp)).trans (e5.mono (by simp))) hcn), e1, e2, e5, ?_⟩
    rw [upd_self, List.take_add_one, hb]
    simp
  · refine TS_nil ⟨hkk, rfl, hfin σ' (.seq rows) e3 ?_, ?_⟩
    · rw [List.take_length] at e4; exact e4
    · exact Ex.fresh hE e3 hc
end
end Mine
end
section
open PySem PySem.W PyProof.Rows PySem.Calls PySem.Spec
set_option Elab.async false
set_option maxRecDepth 100000
set_option maxHeartbeats 0
namespace Mine
abbrev rowV (r : Int × Array UInt8) : V := .tup [.int r.1, .bytes r.2]
def relOf (rows : List (Int × Array UInt8)) : List (Int × Array UInt8) := rows.foldl (fun es r => stB es r.1 r.2) []
theorem relOf_take {rows : List (Int × Array UInt8)} {i : Nat} {r : Int × Array UInt8} (h : rows[i]? = some r) : relOf (rows.take (i + 1)) = stB (relOf (rows.take i)) r.1 r.2 := by
  unfold relOf
  rw [List.take_add_one, h, List.foldl_append]; rfl
theorem relOf_length (rows : List (Int × Array UInt8)) : (relOf rows).length ≤ rows.length := by
  have : ∀ (rows : List (Int × Array UInt8)) es, (rows.foldl (fun es r => stB es r.1 r.2) es).length ≤ es.length + rows.length := by
    intro rows
    induction rows with
    | nil => intro es; simp
    | cons r rows ih =>
      intro es
      have := ih (stB es r.1 r.2)
      have h2 := stB_length es r.1 r.2
      simp only [List.foldl_cons, List.length_cons] at *
      omega
  have := this rows []
  simpa [relOf] using this
section
variable {C : Cx} {σ : Store} {n : Nat} {env : Env} {ε : Loc} {Q : V → Store → Prop} {X : AX → Store → Prop} {QS : Fl → Loc → Store → Prop}
theorem storedA_rel (es : List (Int × Array UInt8)) (k : Int) (b : Array UInt8) : storedA (es.map fun p => (p.1, V.bytes p.2)) k (.bytes b) = (stB es k b).map fun p => (p.1, V.bytes p.2) := stB_map V.bytes es k b
inductive LrI (c : Addr) (rows : List (Int × Array UInt8)) (σ₁ : Store) (i : Nat) (ε : Loc) (σ' : Store) : Prop
  | mk (e1 : ε.lookup ("kind" : Str) = some (.str "relative")) (e2 : ε.lookup ("content" : Str) = some (.obj c)) (e3 : Ex [c] σ₁ σ') (e4 : ∃ ep, σ' c = some (.dictI ((relOf (rows.take i)).map fun p => (p.1, V.bytes p.2)) ep))
theorem lay_rel_spec (O : L1 C) {x D : Addr} {fs : Files} {p : Str} {rv : V} {rows : List (Int × Array UInt8)} (s : SHx σ x D fs) (hz : fs.length ≤ 1000) (hr : RowsV σ rv (rows.map rowV)) (hrz : rows.length ≤ 1000) {P : V → Prop} (hP : P (.tup [.int 0, .int 0])) :
    CALL C (n + 8) (.ref 110) [.obj x, .str p, .str "relative", rv] σ (fun r σ' => (∀ r ∈ rows, 1 ≤ r.1) ∧ r = .none ∧ SHx σ' x D (stB fs p ("relative", .rel (relOf rows))) ∧ Ex [D] σ σ') (fun ax σ' => (¬ ∀ r ∈ rows, 1 ≤ r.1) ∧ Flt [] σ P ax σ') := by
  have s0 := s
  obtain ⟨d, es, ep, h1, h2, h3, h4⟩ := s
  refine CALL_def (names := ["self", "path", "kind", "rows"]) O.ok (O.k (f := fun K => K.lookup 110) (by k_is)) (O.k (f := fun K => codeIn K _ _) (by k_is)) ?_ (by decide) (by decide) ?_
  · exact all4 fun _ _ _ _ => rfl
  intro L
  obtain ⟨Inv, hg, hi⟩ := hr.goes (C := C)
  refine TS_cons (TS_If (TT_BoolOp (TT_And (TT_Compare (EV_local rfl (EV_str (eq_ss ⟨_, rfl, ?_⟩)))))))
  rw [if_pos (by simp)]
  refine TT_And (TT_Compare (EV_ListComp (IT_val (EV_local rfl ⟨_, Inv, hg, by simp; omega, fun Cl => ?_⟩))))
  refine CmpW_filter (fun σ' => σ' = σ) rowV rowV (fun r => decide (r.1 < 1)) (fun σ' e => e ▸ hg.1) _ _ _ _ rfl (fun r hr ε σ' e => ?_) (fun σ' e => ?_)
  · subst e
    refine TA_Name (SN_local (TT_tests_one (TT_Compare (EV_Sub (EV_local rfl (EV_int (sub_tup (j := 0) rfl rfl (EV_int (lt_ii ⟨_, rfl, ?_⟩)))))))))
    refine ⟨rfl, ?_⟩
    split
    · exact EV_local rfl ⟨rfl, rfl⟩
    · rfl
  subst e
  intro l hl
  refine EV_List (TL_nil ⟨by simp, fun l' hl' => ?_⟩)
  have hll : l' ≠ l := fun q => by rw [q, upd_self] at hl'; cases hl'
  refine ne_l0 (l := List.map rowV (List.filter (fun r => decide (r.1 < 1)) rows)) (by rw [upd_ne _ _ (Ne.symm hll), upd_self]; rfl) (upd_self _ _ _) ⟨_, rfl, ?_⟩
  have hl2 : σ' l' = none := by rw [upd_ne _ _ hll] at hl'; exact hl'
  have hs : Ex [] σ' (upd (upd σ' l (.list ([] ++ List.map rowV (List.filter (fun r => decide (r.1 < 1)) rows)))) l' (.list [])) := (Ex.new hl).trans (Ex.new hl')
  generalize hσ₀ : upd (upd σ' l (.list ([] ++ List.map rowV (List.filter (fun r => decide (r.1 < 1)) rows)))) l' (.list []) = σ₀ at hs ⊢
  by_cases hgood : ∀ r ∈ rows, 1 ≤ r.1
  · have hf : List.filter (fun r : Int × Array UInt8 => decide (r.1 < 1)) rows = [] := by
      rw [List.filter_eq_nil_iff]
      intro r hr'
      have := hgood r hr'
      simp; omega
    rw [hf, if_neg (by simp)]
    refine TS_nil ?_
    show TS _ _ _ _ (execs (_ :: _) _) _ _ _
    have g1 := hs.get h1; have g2 := hs.get h2; have g3 := hs.get h3
    have s1 : SHx σ₀ x D fs := s0.ex0 hs
    refine TS_cons (TS_Assign (EV_Method (EV_local rfl (sh_meth O g1 g2 (CW_cons (TL_cons (EV_local rfl (TL_cons (EV_local rfl (TL_nil ⟨Kp_K O.ok (O.k (f := fun K => keepIn K _) (by k_is)), OPL_call ((begin_spec (n := n + 1) O s1 hz (by decide) hP).mono ?_ fun ax σ' z => absurd (by decide) z.1)⟩))))))))))
    rintro r σ₁ ⟨hkk, c, rfl, hc, hca, hE, hfin⟩
    refine SN_local ?_
    show TS _ _ _ _ (execs (_ :: _) _) _ _ _
    obtain ⟨ep0, hca'⟩ : ∃ ep, σ₁ c = some (.dictI [] ep) := by unfold emptyC at hca; rw [if_pos rfl] at hca; exact hca
    have hcn : ∀ a ∈ [D, c], Off σ₀ a := by
      intro a ha
      simp only [List.mem_cons, List.not_mem_nil, or_false] at ha
      rcases ha with rfl | rfl
      · exact .inr (.inl ⟨_, _, g3⟩)
      · exact .inl hc
    have hr0 : RowsV σ₀ rv (rows.map rowV) := hr.ex hs (by simp)
    have hr1 : RowsV σ₁ rv (rows.map rowV) := hr0.ex hE (fun a ha => hcn a (by simp at ha; simp [ha]))
    obtain ⟨Inv1, hg1, hi1⟩ := hr1.goes (C := C)
    refine TS_cons (TS_For rfl (EV_local rfl ⟨_, _, σ₁, hg1, fun _ _ e => e, hg1.1, ?_⟩))
    refine ForW_each (LrI c rows σ₁) _ _ (fun i b hb ε σ' ⟨e1, e2, e3, ep1, e4⟩ => ?_) (fun ε σ' ⟨e1, e2, e3, e4⟩ => ?_) ⟨rfl, rfl, Ex.refl, ep0, by simpa [relOf] using hca'⟩
    · refine TA_Name (SN_local ?_)
      refine TS_cons (TS_If (TT_Compare (EV_local e1 (EV_str (eq_ss ⟨_, rfl, ?_⟩)))))
      rw [if_pos (by simp)]
      refine TS_cons (TS_SetSub (bc O (TL_cons (EV_Sub (EV_local rfl (EV_int (sub_tup (j := 1) rfl rfl (TL_nil (bytes_bytes ?_)))))))))
      have hlen := relOf_length (rows.take i)
      have hlen2 : (rows.take i).length ≤ rows.length := by rw [List.length_take]; omega
      refine EV_local e2 (EV_Sub (EV_local rfl (EV_int (sub_tup (j := 0) rfl rfl (set_dictI e4 (by simp; omega) fun ep2 => ?_)))))
      refine TS_nil ?_
      have e5 : Ex [c] σ₁ (upd σ' c (.dictI (storedA ((relOf (rows.take i)).map fun p => (p.1, V.bytes p.2)) b.1 (.bytes b.2)) ep2)) := e3.trans (Ex.set (by simp))
      refine TS_nil ⟨hi1 _ (hr0.ex ((hE.mono (by simp)).trans (e5.mono (by simp))) hcn), e1, e2, e5, ep2, ?_⟩
      rw [upd_self, storedA_rel, relOf_take hb]
    · obtain ⟨ep3, e4⟩ := e4
      refine TS_nil ⟨hgood, rfl, hfin σ' (.rel (relOf rows)) e3 ⟨ep3, ?_⟩, ?_⟩
      · rw [List.take_length] at e4; exact e4
      · exact (hs.mono (by simp)).trans (Ex.fresh hE e3 hc)
  · have hf : List.filter (fun r : Int × Array UInt8 => decide (r.1 < 1)) rows ≠ [] := by
      intro q
      rw [List.filter_eq_nil_iff] at q
      exact hgood fun r hr' => by have := q r hr'; simp at this; omega
    rw [if_pos (by simpa using hf)]
    refine TT_And_nil ?_
    rw [if_pos rfl]
    refine TS_cons (TS_Raise (n := n + 6) O.ok (gc O (TL_cons (EV_str (TL_nil ((fault_spec (n := n + 3) O (.inr ⟨rfl, rfl⟩)).mono ?_ fun _ _ z => z))))))
    rintro r σ₂ ⟨e, d', rfl, e1, e2, e3, rfl⟩
    exact raised O (S := []) (P := P) (σ₀ := σ') (X := fun ax σ₂ => (¬ ∀ r ∈ rows, 1 ≤ r.1) ∧ Flt [] σ' P ax σ₂) hs e1 e2 e3 hP (hs.gone e1) fun ax σ₂ z => ⟨hgood, z⟩
end
end Mine
end
section
open PySem PySem.W PyProof.Rows PySem.Calls PySem.Spec
set_option Elab.async false
set_option maxRecDepth 100000
set_option maxHeartbeats 0
namespace Mine
def WF (f : Str × Cont) : Prop := f.1 ∈ kinds ∧ match f.2 with
  | .seq rows => f.1 ≠ "relative" ∧ rows.length ≤ 200 ∧ ∀ b ∈ rows, b.size ≤ 200
  | .rel es => f.1 = "relative" ∧ es.length < 64 ∧ ∀ p ∈ es, 1 ≤ p.1 ∧ p.2.size ≤ 200
def tellRows : Cont → List V
  | .seq rows => rows.map .bytes
  | .rel es => (sortI (es.map (·.1))).map fun k => .tup [.int k, .bytes ((vlB es k).getD #[])]
section
variable {C : Cx} {σ : Store} {n : Nat} {env : Env} {ε : Loc} {Q : V → Store → Prop} {X : AX → Store → Prop} {QS : Fl → Loc → Store → Prop}
theorem valueA_rel (es : List (Int × Array UInt8)) (k : Int) : valueA (es.map fun p => (p.1, V.bytes p.2)) k = (vlB es k).map .bytes := vlB_map V.bytes es k
theorem rows_of_spec (O : L1 C) {x D : Addr} {fs : Files} {p : Str} {f : Str × Cont} (s : SHx σ x D fs) (hf : vlB fs p = some f) (hw : WF f) :
    CALL C (n + 5) (.ref 122) [.obj x, .str p] σ (fun r σ' => r = .tup (tellRows f.2) ∧ Ex [] σ σ') X := by
  have s0 := s
  obtain ⟨d, es, ep, h1, h2, h3, h4⟩ := s
  refine CALL_cells (names := ["self", "path"]) O.ok (O.k (f := fun K => K.lookup 122) (by k_is)) (O.k (f := fun K => codeIn K _ _) (by k_is)) ?_ (by decide) (by walk_at "hk") (by decide) (by decide) ?_
  · exact all2 fun _ _ => rfl
  intro L hL
  show TS C (n + 4) _ [("self", .obj x), ("path", .str p)] _ (upd σ (L + 1) (.cell none)) _ _
  have hL1 : σ (L + 1) = none := hL _ (Nat.le_succ _)
  have hs : Ex [] σ (upd σ (L + 1) (.cell none)) := Ex.new hL1
  have g1 := hs.get h1; have g2 := hs.get h2
  refine TS_cons (TS_Assign (EV_Method (EV_local rfl (sh_meth O g1 g2 (CW_cons (TL_cons (EV_local rfl (TL_nil ⟨Kp_K O.ok (O.k (f := fun K => keepIn K _) (by k_is)), OPL_call ((content_of_spec (n := n + 2) O (s0.ex0 hs) hf).mono ?_ fun _ _ z => z)⟩))))))))
  rintro r σ₁ ⟨⟨c, rfl, hc⟩, rfl⟩
  refine SN_cell rfl (upd_self _ _ _) ?_
  have e0 : upd (upd σ (L + 1) (.cell none)) (L + 1) (.cell (some (.obj c))) = upd σ (L + 1) (.cell (some (.obj c))) := by
    funext b; by_cases hb : b = L + 1 <;> simp [upd, hb]
  rw [e0]
  have hs1 : Ex [] σ (upd σ (L + 1) (.cell (some (.obj c)))) := Ex.new hL1
  have hcL : c ≠ L + 1 := fun q => by
    subst q
    cases hf2 : f.2 with
    | seq rows => rw [hf2] at hc; have e : _ = _ := hc; rw [upd_self] at e; cases e
    | rel es => rw [hf2] at hc; obtain ⟨_, e⟩ := hc; rw [upd_self] at e; cases e
  have hc1 : CAt (upd σ (L + 1) (.cell (some (.obj c)))) c f.2 := by
    cases hf2 : f.2 with
    | seq rows => rw [hf2] at hc; have e : _ = _ := hc; rw [upd_ne _ _ hcL] at e; show _ = _; rw [upd_ne _ _ hcL]; exact e
    | rel es => rw [hf2] at hc; obtain ⟨ep, e⟩ := hc; rw [upd_ne _ _ hcL] at e; refine ⟨ep, ?_⟩; rw [upd_ne _ _ hcL]; exact e
  have g1' := hs1.get h1; have g2' := hs1.get h2
  show TS _ _ _ _ (execs (_ :: _) _) _ _ _
  refine TS_cons (TS_If (TT_Compare (EV_Method (EV_local rfl (sh_meth O g1' g2' (CW_cons (TL_cons (EV_local rfl (TL_nil ⟨Kp_K O.ok (O.k (f := fun K => keepIn K _) (by k_is)), OPL_call ((kind_of_spec (n := n + 2) O (s0.ex0 hs1)).mono ?_ fun _ _ z => z)⟩)))))))))
  rintro r σ₂ ⟨rfl, rfl⟩
  rw [hf]
  refine EV_str (eq_ss ⟨_, rfl, ?_⟩)
  obtain ⟨fk, fc⟩ := f
  cases fc with
  | seq rows =>
    obtain ⟨wk, w1, w2, w3⟩ := hw
    rw [if_neg (by show ¬ decide _ = true; rw [decide_eq_true_eq]; exact w1)]
    refine TS_nil ?_
    show TS _ _ _ _ (execs (_ :: _) _) _ _ _
    refine TS_cons (TS_Return (bc O (TL_cons (EV_cell rfl (upd_self _ _ _) (TL_nil (tuple_list hc1 (by simp; omega) ⟨rfl, hs1⟩))))))
  | rel es =>
    obtain ⟨wk, w1, w2, w3⟩ := hw
    obtain ⟨ep2, hc1⟩ := hc1
    rw [if_pos (by show decide _ = true; rw [decide_eq_true_eq]; exact w1)]
    refine TS_cons (TS_Return (bc O (TL_cons (EV_ListComp (IT_val (bc O (TL_cons (EV_cell rfl (upd_self _ _ _) (TL_nil (sorted_dictI (n := n + 3) hc1 (by simpa using w2) ?_))))))))))
    intro l hl
    have hkeys : (es.map fun p => (p.1, V.bytes p.2)).map (·.1) = es.map (·.1) := by rw [List.map_map]; rfl
    rw [hkeys]
    refine ⟨_, _, goes_list (upd_self _ _ _), ?_, fun Cl => ?_⟩
    · rw [List.length_map, (sortI_perm _).length_eq]; simp; omega
    have hlc : c ≠ l := fun q => by rw [← q, hc1] at hl; cases hl
    have hlL : L + 1 ≠ l := fun q => by rw [← q, upd_self] at hl; cases hl
    refine CmpW_each (fun σ' => σ' = upd (upd σ (L + 1) (.cell (some (.obj c)))) l (.list ((sortI (es.map (·.1))).map .int))) _ (fun k => .tup [.int k, .bytes ((vlB es k).getD #[])]) (fun σ' e => by rw [e]; exact upd_self _ _ _) _ _ _ _ rfl (fun k hk ε σ' e => ?_) (fun σ' e => ?_)
    · subst e
      obtain ⟨b, hb, _⟩ := vlB_mem ((sortI_perm _).mem_iff.mp hk)
      refine TA_Name (SN_local (TT_tests_nil ⟨rfl, ?_⟩))
      refine EV_Tuple (TL_cons (EV_local rfl (TL_cons (EV_Sub (EV_cell rfl (by rw [upd_ne _ _ hlL, upd_self]) (EV_local rfl (sub_dictI (x := .bytes b) (by rw [upd_ne _ _ hlc]; exact hc1) (by rw [valueA_rel, hb]; rfl) (TL_nil ⟨by simp, ?_, rfl⟩))))))))
      rw [hb]; rfl
    · subst e
      intro D' hD'
      refine TL_nil (tuple_list (upd_self _ _ _) ?_ ⟨rfl, (hs1.trans (Ex.new hl)).trans (Ex.new hD')⟩)
      rw [List.nil_append, List.length_map, (sortI_perm _).length_eq]; simp; omega
end
end Mine
end
section
open PySem PySem.W PyProof.Rows PySem.Calls PySem.Spec
set_option Elab.async false
set_option maxRecDepth 100000
set_option maxHeartbeats 0
namespace Mine
def fileOf (fs : Files) (p : Str) : Str × Cont := (vlB fs p).getD ("", .seq [])
def pathsOf (fs : Files) : List Str := sortS (fs.map (·.1))
def told (fs : Files) : List V := (pathsOf fs).map fun p => .tup [.str p, .str (fileOf fs p).1, .tup (tellRows (fileOf fs p).2)]
def WFs (fs : Files) : Prop := fs.length < 64 ∧ ∀ p ∈ fs, WF p.2 ∧ p.1.cps.size ≤ 1000
theorem file_of {fs : Files} (w : WFs fs) {p : Str} (h : p ∈ pathsOf fs) : vlB fs p = some (fileOf fs p) ∧ WF (fileOf fs p) ∧ p.cps.size ≤ 1000 := by
  obtain ⟨f, e, m⟩ := vlB_mem ((sortS_perm _).mem_iff.mp h)
  have : fileOf fs p = f := by unfold fileOf; rw [e]; rfl
  rw [this]
  exact ⟨e, w.2 _ m⟩
section
variable {C : Cx} {σ : Store} {n : Nat} {env : Env} {ε : Loc} {Q : V → Store → Prop} {X : AX → Store → Prop} {QS : Fl → Loc → Store → Prop}
theorem told_spec (O : L1 C) {x D : Addr} {fs : Files} (s : SHx σ x D fs) (w : WFs fs) :
    CALL C (n + 7) (.ref 134) [.obj x] σ (fun r σ' => r = .tup (told fs) ∧ Ex [] σ σ') X := by
  have s0 := s
  obtain ⟨d, es, ep, h1, h2, h3, h4⟩ := s
  refine CALL_cells (names := ["self"]) O.ok (O.k (f := fun K => K.lookup 134) (by k_is)) (O.k (f := fun K => codeIn K _ _) (by k_is)) ?_ (by decide) (by walk_at "hk") (by decide) (by decide) ?_
  · exact all1 fun _ => rfl
  intro L hL
  show TS C (n + 6) _ [] _ (upd σ (L + 1) (.cell (some (.obj x)))) _ _
  have hL1 : σ (L + 1) = none := hL _ (Nat.le_succ _)
  have hs : Ex [] σ (upd σ (L + 1) (.cell (some (.obj x)))) := Ex.new hL1
  have g1 := hs.get h1; have g2 := hs.get h2
  refine TS_cons (TS_Return (bc O (TL_cons (EV_ListComp (IT_val (EV_Method (EV_cell rfl (upd_self _ _ _) (sh_meth O g1 g2 (CW_nil (Kp_K O.ok (O.k (f := fun K => keepIn K _) (by k_is))) (OPL_call ((paths_spec (n := n + 3) O (s0.ex0 hs) w.1).mono ?_ fun _ _ z => z)))))))))))
  rintro r σ₁ ⟨l, rfl, hl, hl2, hs2⟩
  refine ⟨_, _, goes_list hl2, ?_, fun Cl => ?_⟩
  · rw [List.length_map, (sortS_perm _).length_eq]; have := w.1; simp; omega
  have hs3 := hs.trans hs2
  refine CmpW_each (fun σ' => Ex [] σ₁ σ') _ (fun p => .tup [.str p, .str (fileOf fs p).1, .tup (tellRows (fileOf fs p).2)]) (fun σ' e => e.get hl2) _ _ _ _ Ex.refl (fun p hp ε σ' e => ?_) (fun σ' e => ?_)
  · obtain ⟨hf, hw, _⟩ := file_of w hp
    have e2 := hs3.trans e
    have g3 := e2.get h1; have g4 := e2.get h2
    have gc : σ' (L + 1) = some (.cell (some (.obj x))) := e.get (hs2.get (upd_self _ _ _))
    refine TA_Name (SN_local (TT_tests_nil ⟨rfl, ?_⟩))
    refine EV_Tuple (TL_cons (EV_local rfl (TL_cons (EV_Method (EV_cell rfl gc (sh_meth O g3 g4 (CW_cons (TL_cons (EV_local rfl (TL_nil ⟨Kp_K O.ok (O.k (f := fun K => keepIn K _) (by k_is)), OPL_call ((kind_of_spec (n := n + 4) O (s0.ex0 e2)).mono ?_ fun _ _ z => z)⟩))))))))))
    rintro r σ₂ ⟨rfl, rfl⟩
    refine TL_cons (EV_Method (EV_cell rfl gc (sh_meth O g3 g4 (CW_cons (TL_cons (EV_local rfl (TL_nil ⟨Kp_K O.ok (O.k (f := fun K => keepIn K _) (by k_is)), OPL_call ((rows_of_spec (n := n + 1) O (s0.ex0 e2) hf hw).mono ?_ fun _ _ z => z)⟩)))))))
    rintro r σ₃ ⟨rfl, e3⟩
    refine TL_nil ⟨by simp, ?_, e.trans e3⟩
    rw [hf]; rfl
  · intro D' hD'
    refine TL_nil (tuple_list (upd_self _ _ _) ?_ ⟨rfl, (hs3.trans e).trans (Ex.new hD')⟩)
    rw [List.nil_append, List.length_map, (sortS_perm _).length_eq]; have := w.1; simp; omega
end
end Mine
end
section
open PySem PySem.W PyProof.Rows PySem.Calls PySem.Spec
set_option Elab.async false
set_option maxRecDepth 100000
set_option maxHeartbeats 0
namespace Mine
def relRows (es : List (Int × Array UInt8)) : List (Int × Array UInt8) := (sortI (es.map (·.1))).map fun k => (k, (vlB es k).getD #[])
def copyF : Str × Cont → Str × Cont
  | (k, .seq rows) => (k, .seq rows)
  | (_, .rel es) => ("relative", .rel (relOf (relRows es)))
def copyOf (fs : Files) : Files := (pathsOf fs).foldl (fun acc p => stB acc p (copyF (fileOf fs p))) []
theorem foldl_take {α β : Type} {f : β → α → β} {b : β} {l : List α} {i : Nat} {x : α} (h : l[i]? = some x) : (l.take (i + 1)).foldl f b = f ((l.take i).foldl f b) x := by
  rw [List.take_add_one, h, List.foldl_append]; rfl
theorem copy_length (l : List Str) (g : Str → Str × Cont) (acc : Files) : (l.foldl (fun acc p => stB acc p (g p)) acc).length ≤ acc.length + l.length := by
  induction l generalizing acc with
  | nil => simp
  | cons p l ih =>
    have := ih (stB acc p (g p))
    have h2 := stB_length acc p (g p)
    simp only [List.foldl_cons, List.length_cons] at *
    omega
section
variable {C : Cx} {σ : Store} {n : Nat} {env : Env} {ε : Loc} {Q : V → Store → Prop} {X : AX → Store → Prop} {QS : Fl → Loc → Store → Prop}
inductive NewQ (σ : Store) (fs : Files) (r : V) (σ' : Store) : Prop
  | mk (x D : Addr) (h1 : r = .obj x) (h2 : σ x = none) (h3 : σ D = none) (h4 : SHx σ' x D fs) (h5 : Ex [] σ σ')
theorem new_spec (O : L1 C) : CALL C (n + 3) (.ref 137) [] σ (NewQ σ []) X := by
  refine CALL_make O.ok (O.k (f := fun K => makesIn K 137) (by k_is)) (O.k (f := fun K => findIn K _ _) (by k_is)) (O.k (f := fun K => isFn K _) (by k_is)) fun x d hx hd hne => ?_
  refine CALL_def (names := ["self"]) O.ok (O.k (f := fun K => K.lookup 77) (by k_is)) (O.k (f := fun K => codeIn K _ _) (by k_is)) ?_ (by decide) (by decide) ?_
  · exact all1 fun _ => rfl
  intro L
  refine TS_cons (TS_SetAttr O.ok (EV_Dict0S O.ok fun D hD => EV_local rfl ?_))
  have hDx : D ≠ x := fun q => by rw [q, upd_self] at hD; cases hD
  have hDd : D ≠ d := fun q => by rw [q, upd_ne _ _ (Ne.symm hne), upd_self] at hD; cases hD
  have hD0 : σ D = none := by rw [upd_ne _ _ hDx, upd_ne _ _ hDd] at hD; exact hD
  refine ⟨x, 137, d, [], rfl, by rw [upd_ne _ _ (Ne.symm hDx), upd_self], by rw [upd_ne _ _ (Ne.symm hDd), upd_ne _ _ (Ne.symm hne), upd_self], by simp, O.k (f := fun K => findIn K _ _) (by k_is), O.k (f := fun K => plainOver K _) (by k_is), O.k (f := fun K => takerIn K _ _) (by k_is), O.k (f := fun K => hasDictIn K _) (by k_is), ?_⟩
  refine TS_nil ⟨rfl, x, D, rfl, hx, hD0, ⟨d, [], 0, ?_, ?_, ?_, .nil⟩, ?_⟩
  · rw [upd_ne _ _ hne, upd_ne _ _ (Ne.symm hDx), upd_self]
  · rw [upd_self]; rfl
  · rw [upd_ne _ _ hDd, upd_self]
  · intro a o e _
    have n1 : a ≠ d := fun q => by rw [q, hd] at e; cases e
    have n2 : a ≠ x := fun q => by rw [q, hx] at e; cases e
    have n3 : a ≠ D := fun q => by rw [q, hD0] at e; cases e
    rw [upd_ne _ _ n1, upd_ne _ _ n3, upd_ne _ _ n2, upd_ne _ _ n1]; exact e
inductive CpI (x x' D' : Addr) (fs : Files) (σ₂ : Store) (i : Nat) (ε : Loc) (σ' : Store) : Prop
  | mk (e1 : ε.lookup ("self" : Str) = some (.obj x)) (e2 : ε.lookup ("found" : Str) = some (.obj x')) (e3 : Ex [D'] σ₂ σ') (e4 : SHx σ' x' D' (((pathsOf fs).take i).foldl (fun acc p => stB acc p (copyF (fileOf fs p))) []))
theorem copied_spec (O : L1 C) {x D : Addr} {fs : Files} (s : SHx σ x D fs) (w : WFs fs) :
    CALL C (n + 10) (.ref 129) [.obj x] σ (NewQ σ (copyOf fs)) X := by
  have s0 := s
  obtain ⟨d, es, ep, h1, h2, h3, h4⟩ := s
  refine CALL_def (names := ["self"]) O.ok (O.k (f := fun K => K.lookup 129) (by k_is)) (O.k (f := fun K => codeIn K _ _) (by k_is)) ?_ (by decide) (by decide) ?_
  · exact all1 fun _ => rfl
  intro L
  refine TS_cons (TS_Assign (gc0 O ((new_spec (n := n + 6) O).mono ?_ fun _ _ z => z)))
  rintro r σ₁ ⟨x', D', rfl, hx', hD', s1, hE⟩
  refine SN_local ?_
  show TS _ _ _ _ (execs (_ :: _) _) _ _ _
  have g1 := hE.get h1; have g2 := hE.get h2
  refine TS_cons (TS_For_it rfl (IT_val (EV_Method (EV_local rfl (sh_meth O g1 g2 (CW_nil (Kp_K O.ok (O.k (f := fun K => keepIn K _) (by k_is))) (OPL_call ((paths_spec (n := n + 6) O (s0.ex0 hE) w.1).mono ?_ fun _ _ z => z))))))))
  rintro r σ₂ ⟨l, rfl, hl, hl2, hE2⟩
  refine ⟨_, _, goes_list hl2, ?_⟩
  have hlen : (pathsOf fs).length < 64 := by unfold pathsOf; rw [(sortS_perm _).length_eq]; simpa using w.1
  have s2 : SHx σ₂ x' D' [] := s1.ex0 hE2
  have hDl : l ≠ D' := fun q => by
    obtain ⟨_, _, _, _, _, e3, _⟩ := s1
    rw [← q, hl] at e3; cases e3
  refine ForW_each (CpI x x' D' fs σ₂) _ (pathsOf fs) (fun i p hp ε σ' ⟨e1, e2, e3, e4⟩ => ?_) (fun ε σ' ⟨e1, e2, e3, e4⟩ => ?_) ⟨rfl, rfl, Ex.refl, s2⟩
  · obtain ⟨hf, hw, _⟩ := file_of w (List.mem_of_getElem? hp)
    have hD2 : σ D' = none := hD'
    have eall : Ex [] σ σ' := by
      intro a o e _
      have : a ≠ D' := fun q => by rw [q, hD'] at e; cases e
      exact e3 _ _ (hE2.get (hE.get e)) (by simpa using this)
    have g3 := eall.get h1; have g4 := eall.get h2
    have e4' := e4
    obtain ⟨d', es', ep', k1, k2, k3, k4⟩ := e4'
    refine TA_Name (SN_local ?_)
    refine TS_cons (TS_Expr (EV_Method (EV_local e2 (sh_meth O k1 k2 (CW_cons (TL_cons (EV_local rfl (TL_cons ?_))))))))
    refine EV_Method (EV_local e1 (sh_meth O g3 g4 (CW_cons (TL_cons (EV_local rfl (TL_nil ⟨Kp_K O.ok (O.k (f := fun K => keepIn K _) (by k_is)), OPL_call ((kind_of_spec (n := n + 7) O (s0.ex0 eall)).mono ?_ fun _ _ z => z)⟩))))))
    rintro r σ₃ ⟨rfl, rfl⟩
    refine TL_cons (EV_Method (EV_local e1 (sh_meth O g3 g4 (CW_cons (TL_cons (EV_local rfl (TL_nil ⟨Kp_K O.ok (O.k (f := fun K => keepIn K _) (by k_is)), OPL_call ((rows_of_spec (n := n + 4) O (s0.ex0 eall) hf hw).mono ?_ fun _ _ z => z)⟩)))))))
    rintro r σ₄ ⟨rfl, e5⟩
    rw [hf]
    have hsz : (((pathsOf fs).take i).foldl (fun acc p => stB acc p (copyF (fileOf fs p))) []).length ≤ 1000 := by
      have := copy_length ((pathsOf fs).take i) (fun p => copyF (fileOf fs p)) []
      simp only [List.length_nil, List.length_take] at this
      omega
    have hD4 : ∃ es ep, σ₄ D' = some (.dictS es ep) := ⟨_, _, e5.get k3⟩
    have fin : ∀ r σ₅, SHx σ₅ x' D' (stB (((pathsOf fs).take i).foldl (fun acc p => stB acc p (copyF (fileOf fs p))) []) p (copyF (fileOf fs p))) → Ex [D'] σ₄ σ₅ → (fun (r : V) σ₅ => (σ₅ l = some (.list ((pathsOf fs).map .str))) ∧ Ex [D'] σ₂ σ₅ ∧ SHx σ₅ x' D' (((pathsOf fs).take (i + 1)).foldl (fun acc p => stB acc p (copyF (fileOf fs p))) [])) r σ₅ := by
      intro r σ₅ q1 q2
      have e6 : Ex [D'] σ₂ σ₅ := (e3.trans (e5.mono (by simp))).trans q2
      refine ⟨e6 _ _ hl2 (by simpa using hDl), e6, ?_⟩
      rw [foldl_take hp]; exact q1
    generalize hff : fileOf fs p = f at fin ⊢
    rw [hff] at hw
    obtain ⟨fk, fc⟩ := f
    refine TL_nil ⟨Kp_K O.ok (O.k (f := fun K => keepIn K _) (by k_is)), OPL_call ?_⟩
    cases fc with
    | seq rows =>
      obtain ⟨wk, w1, w2, w3⟩ := hw
      refine (lay_other_spec (n := n + 1) (P := fun _ => True) (k := fk) (rows := rows) O (e4.ex0 e5) hsz ?_ (.inr rfl) (by omega) w1 trivial).mono ?_ fun ax σ' z => absurd wk z.1
      · have : ∀ k ∈ kinds, k.length ≤ 1000 := by decide
        exact this _ wk
      rintro r σ₅ ⟨_, _, q1, q2⟩
      exact TS_nil (fin r σ₅ q1 q2 |> fun z => ⟨z.1, e1, e2, z.2.1, z.2.2⟩)
    | rel es =>
      obtain ⟨wk, w1, w2, w3⟩ := hw
      have hrr : tellRows (.rel es) = (relRows es).map rowV := by
        unfold tellRows relRows; rw [List.map_map]; rfl
      have hkk : ∀ r ∈ relRows es, 1 ≤ r.1 := by
        intro r hr
        unfold relRows at hr
        obtain ⟨k, hk, rfl⟩ := List.mem_map.mp hr
        obtain ⟨y, hy, rfl⟩ := List.mem_map.mp ((sortI_perm _).mem_iff.mp hk)
        exact (w3 y hy).1
      have hrl : (relRows es).length ≤ 1000 := by
        unfold relRows; rw [List.length_map, (sortI_perm _).length_eq, List.length_map]; omega
      have w1' : fk = "relative" := w1
      subst w1'
      rw [hrr]
      refine (lay_rel_spec (n := n + 1) (P := fun _ => True) (rows := relRows es) O (e4.ex0 e5) hsz (.inr rfl) hrl trivial).mono ?_ fun ax σ' z => absurd hkk z.1
      rintro r σ₅ ⟨_, _, q1, q2⟩
      exact TS_nil (fin r σ₅ q1 q2 |> fun z => ⟨z.1, e1, e2, z.2.1, z.2.2⟩)
  · show TS _ _ _ _ (execs (_ :: _) _) _ _ _
    refine TS_cons (TS_Return (EV_local e2 ⟨x', D', rfl, hx', hD', ?_, ?_⟩))
    · rw [List.take_length] at e4; exact e4
    · intro a o e _
      have : a ≠ D' := fun q => by rw [q, hD'] at e; cases e
      exact e3 _ _ (hE2.get (hE.get e)) (by simpa using this)
end
end Mine
end
section
open PySem PySem.W PyProof.Rows PySem.Calls PySem.Spec
set_option Elab.async false
set_option maxRecDepth 100000
set_option maxHeartbeats 0
namespace Mine
def letter (k : Str) : UInt8 := if k = "sequential" then 83 else if k = "relative" then 82 else 73
theorem letter_at : ∀ k ∈ kinds, ∃ j : Nat, j < 3 ∧ kinds[j]? = some k ∧ (∀ i, i < j → kinds[i]? ≠ some k) ∧ cut [(83 : UInt8), 82, 73] (some (j : Int)) (some ((j : Int) + 1)) = [letter k] := by
  intro k hk
  simp only [kinds, List.mem_cons, List.not_mem_nil, or_false] at hk
  rcases hk with rfl | rfl | rfl
  · exact ⟨0, by decide, rfl, by omega, by decide⟩
  · refine ⟨1, by decide, rfl, fun i hi => ?_, by decide⟩
    have : i = 0 := by omega
    subst this; decide
  · refine ⟨2, by decide, rfl, fun i hi => ?_, by decide⟩
    have : i = 0 ∨ i = 1 := by omega
    rcases this with rfl | rfl <;> decide
def rowB (b : Array UInt8) : List UInt8 := be 2 b.size ++ b.toList
def rowsB : Cont → List UInt8
  | .seq rows => rows.flatMap rowB
  | .rel es => (relRows es).flatMap fun r => be 4 r.1.toNat ++ rowB r.2
def fileB (p : Str) (f : Str × Cont) : List UInt8 := letter f.1 :: (pathBytes p ++ (be 4 (tellRows f.2).length ++ rowsB f.2))
def writeB (fs : Files) : List UInt8 := (pathsOf fs).flatMap fun p => fileB p (fileOf fs p)
def small (f : Str × Cont) : Prop := match f.2 with
  | .seq _ => True
  | .rel es => ∀ r ∈ relRows es, r.1 < 4294967296
def WrGood (fs : Files) : Prop := ∀ p ∈ pathsOf fs, goodPath p ∧ small (fileOf fs p)
theorem flat_len {α : Type} (f : α → List UInt8) (k : Nat) : ∀ (l : List α), (∀ x ∈ l, (f x).length ≤ k) → (l.flatMap f).length ≤ l.length * k
  | [], _ => by simp
  | x :: l, h => by
    have h1 := h x (.head _)
    have h2 := flat_len f k l fun y hy => h y (.tail _ hy)
    rw [List.flatMap_cons, List.length_append, List.length_cons, Nat.add_mul]; omega
theorem rel_mem {es : List (Int × Array UInt8)} {r : Int × Array UInt8} (h : r ∈ relRows es) : r ∈ es := by
  unfold relRows at h
  obtain ⟨k, hk, rfl⟩ := List.mem_map.mp h
  obtain ⟨b, hb, hm⟩ := vlB_mem ((sortI_perm _).mem_iff.mp hk)
  rw [hb]; exact hm
theorem relRows_length (es : List (Int × Array UInt8)) : (relRows es).length = es.length := by
  unfold relRows; rw [List.length_map, (sortI_perm _).length_eq, List.length_map]
theorem tellRows_rel (es : List (Int × Array UInt8)) : tellRows (.rel es) = (relRows es).map rowV := by
  unfold tellRows relRows; rw [List.map_map]; rfl
theorem rowB_len {b : Array UInt8} (h : b.size ≤ 200) : (rowB b).length ≤ 202 := by
  unfold rowB; rw [List.length_append, be_length]; simp; omega
theorem pathBytes_len {p : Str} (h : goodPath p) : (pathBytes p).length ≤ 256 := by
  unfold pathBytes; rw [List.length_append, be_length, List.length_map]; have := h.2; simp; omega
theorem tellRows_len {f : Str × Cont} (w : WF f) : (tellRows f.2).length ≤ 200 := by
  obtain ⟨k, c⟩ := f
  cases c with
  | seq rows => obtain ⟨_, _, h, _⟩ := w; simpa [tellRows] using h
  | rel es => obtain ⟨_, _, h, _⟩ := w; rw [tellRows_rel, List.length_map, relRows_length]; exact Nat.le_of_lt (Nat.lt_of_lt_of_le h (by decide))
theorem rowsB_len {f : Str × Cont} (w : WF f) : (rowsB f.2).length ≤ 49000 := by
  obtain ⟨k, c⟩ := f
  cases c with
  | seq rows =>
    obtain ⟨_, _, h, h2⟩ := w
    have := flat_len rowB 202 rows fun b hb => rowB_len (h2 b hb)
    have h' : rows.length ≤ 200 := h
    show (rows.flatMap rowB).length ≤ _; omega
  | rel es =>
    obtain ⟨_, _, h, h2⟩ := w
    have := flat_len (fun r : Int × Array UInt8 => be 4 r.1.toNat ++ rowB r.2) 206 (relRows es) fun r hr => by
      have := rowB_len (h2 r (rel_mem hr)).2
      rw [List.length_append, be_length]; omega
    rw [relRows_length] at this
    have h' : es.length < 64 := h
    show ((relRows es).flatMap fun r => be 4 r.1.toNat ++ rowB r.2).length ≤ _; omega
theorem flat_take {α : Type} (g : α → List UInt8) {l : List α} {i : Nat} {x : α} (h : l[i]? = some x) : (l.take (i + 1)).flatMap g = (l.take i).flatMap g ++ g x := by
  rw [List.take_add_one, h, List.flatMap_append]; simp
theorem flat_take_len {α : Type} (g : α → List UInt8) (l : List α) (i : Nat) : ((l.take i).flatMap g).length ≤ (l.flatMap g).length := by
  conv => rhs; rw [← List.take_append_drop i l, List.flatMap_append, List.length_append]
  omega
section
variable {C : Cx} {σ : Store} {n : Nat} {env : Env} {ε : Loc} {Q : V → Store → Prop} {X : AX → Store → Prop} {QS : Fl → Loc → Store → Prop}
theorem EV_letters (O : L1 C) {pos : Pos} (h : Q (.bytes #[83, 82, 73]) σ) (hk : env.scope.kind = .function := by rfl) (hl : env.kindOf "KIND_LETTERS" = some .globalImplicit := by rfl) (hg : env.globals = mainGlobals := by rfl) : EV C n env ε (.Name "KIND_LETTERS" pos) σ Q X := by
  refine EV_global (y := .bytes #[83, 82, 73]) O.ok (O.k (f := fun K => nsIn K mainGlobals "KIND_LETTERS") (by k_is)) (fun h K => ?_) h hk hl hg
  exact ⟨_, rfl⟩
inductive WrI (x : Addr) (fs : Files) (σ₁ : Store) (i : Nat) (ε : Loc) (σ' : Store) : Prop
  | mk (e1 : ε.lookup ("shelf" : Str) = some (.obj x)) (e2 : ε.lookup ("found" : Str) = some (.bytes (((pathsOf fs).take i).flatMap fun p => fileB p (fileOf fs p)).toArray)) (e3 : (((pathsOf fs).take i).flatMap fun p => fileB p (fileOf fs p)).length ≤ i * 50000) (e4 : Ex [] σ₁ σ') (e5 : ∀ p ∈ (pathsOf fs).take i, goodPath p ∧ small (fileOf fs p))
inductive WsI (x : Addr) (fk : Str) (base : List UInt8) (rows : List (Array UInt8)) (σ₅ : Store) (i : Nat) (ε : Loc) (σ' : Store) : Prop
  | mk (q1 : ε.lookup ("kind" : Str) = some (.str fk)) (q2 : ε.lookup ("shelf" : Str) = some (.obj x)) (q3 : ε.lookup ("found" : Str) = some (.bytes (base ++ (rows.take i).flatMap rowB).toArray)) (q4 : Ex [] σ₅ σ')
inductive WtI (x : Addr) (fk : Str) (base : List UInt8) (es : List (Int × Array UInt8)) (σ₅ : Store) (i : Nat) (ε : Loc) (σ' : Store) : Prop
  | mk (q1 : ε.lookup ("kind" : Str) = some (.str fk)) (q2 : ε.lookup ("shelf" : Str) = some (.obj x)) (q3 : ε.lookup ("found" : Str) = some (.bytes (base ++ ((relRows es).take i).flatMap fun r => be 4 r.1.toNat ++ rowB r.2).toArray)) (q4 : Ex [] σ₅ σ') (q5 : ∀ r ∈ (relRows es).take i, r.1 < 4294967296)
theorem write_spec (O : L1 C) {x D : Addr} {fs : Files} (s : SHx σ x D fs) (w : WFs fs) {P : V → Prop} (hP : P (.tup [.int 0, .int 0])) :
    CALL C (n + 12) (.ref 167) [.obj x] σ (fun r σ' => WrGood fs ∧ r = .bytes (writeB fs).toArray ∧ Ex [] σ σ') (fun ax σ' => ¬ WrGood fs ∧ Flt [] σ P ax σ') := by
  have s0 := s
  obtain ⟨d, es, ep, h1, h2, h3, h4⟩ := s
  refine CALL_def (names := ["shelf"]) O.ok (O.k (f := fun K => K.lookup 167) (by k_is)) (O.k (f := fun K => codeIn K _ _) (by k_is)) ?_ (by decide) (by decide) ?_
  · exact all1 fun _ => rfl
  intro L
  have hlen : (pathsOf fs).length < 64 := by unfold pathsOf; rw [(sortS_perm _).length_eq]; simpa using w.1
  refine TS_cons (TS_Assign (EV_bytes (SN_local ?_)))
  show TS _ _ _ _ (execs (_ :: _) _) _ _ _
  refine TS_cons (TS_For_it rfl (IT_val (EV_Method (EV_local rfl (sh_meth O h1 h2 (CW_nil (Kp_K O.ok (O.k (f := fun K => keepIn K _) (by k_is))) (OPL_call ((paths_spec (n := n + 8) O s0 w.1).mono ?_ fun _ _ z => z))))))))
  rintro r σ₁ ⟨l, rfl, hl, hl2, hE⟩
  refine ⟨_, _, goes_list hl2, ?_⟩
  refine ForW_each (WrI x fs σ₁) _ (pathsOf fs) (fun i p hp ε σ' ⟨e1, e2, e3, e4, e5⟩ => ?_) (fun ε σ' ⟨e1, e2, e3, e4, e5⟩ => ?_) ⟨rfl, rfl, by simp, Ex.refl, by simp⟩
  · have hpm := List.mem_of_getElem? hp
    obtain ⟨hf, hw, hps⟩ := file_of w hpm
    have hi : i < 64 := by have := (List.getElem?_eq_some_iff.mp hp).1; omega
    have eall := hE.trans e4
    have g3 := eall.get h1; have g4 := eall.get h2
    generalize hacc : (((pathsOf fs).take i).flatMap fun p => fileB p (fileOf fs p)) = acc at e2 e3
    refine TA_Name (SN_local ?_)
    refine TS_cons (TS_AssignSwap (names := ["kind", "rows"]) (EV_Tuple (TL_cons (EV_Method (EV_local e1 (sh_meth O g3 g4 (CW_cons (TL_cons (EV_local rfl (TL_nil ⟨Kp_K O.ok (O.k (f := fun K => keepIn K _) (by k_is)), OPL_call ((kind_of_spec (n := n + 9) O (s0.ex0 eall)).mono ?_ fun _ _ z => z)⟩))))))))))
    rintro r σ₂ ⟨rfl, rfl⟩
    refine TL_cons (EV_Method (EV_local e1 (sh_meth O g3 g4 (CW_cons (TL_cons (EV_local rfl (TL_nil ⟨Kp_K O.ok (O.k (f := fun K => keepIn K _) (by k_is)), OPL_call ((rows_of_spec (n := n + 6) O (s0.ex0 eall) hf hw).mono ?_ fun _ _ z => z)⟩)))))))
    rintro r σ₃ ⟨rfl, e6⟩
    rw [hf]
    generalize hff : fileOf fs p = f at hw ⊢
    refine TL_nil ⟨by simp, _, rfl, rfl, TA_bind (SN_local (TA_bind (SN_local ?_)))⟩
    obtain ⟨j, hj, hj1, hj2, hj3⟩ := letter_at f.1 hw.1
    show TS _ _ _ _ (execs (_ :: _) _) _ _ _
    have hbad : ∀ ax σ', (¬ (goodPath p ∧ small f) ∧ Flt [] σ₃ P ax σ') → ¬ WrGood fs ∧ Flt [] σ P ax σ' := fun ax σ' ⟨q1, q2, q3, q4⟩ => ⟨fun g => q1 (hff ▸ g p hpm), q2, q3, (eall.trans e6).trans q4⟩
    refine TS_cons (TS_Assign (EV_Method (gl (v := .ref 63) O (meth_K_tup O.ok PySem.F.slot_tuple_index PySem.F.type_tuple_index (O.k (f := fun K => K.lookup 63) (by k_is)) (CW_cons (TL_cons (EV_local rfl (TL_nil ⟨Kp_builtin, index_K O.ok (O.k (f := fun K => K.lookup 63) (by k_is)) (ys := kinds) ⟨[_, _, _], rfl, rfl⟩ hj1 hj2 (SN_local ?_)⟩))))))))
    show TS _ _ _ _ (execs (_ :: _) _) _ _ _
    refine TS_cons (TS_Assign (EV_BinOp (EV_BinOp (EV_BinOp (EV_local e2 (EV_Cut (EV_letters O ?_)))))))
    refine EV_local rfl ⟨_, rfl, EV_BinOp (EV_local rfl (EV_int (add_ii ⟨_, rfl, cut_bytes (by decide) ?_⟩)))⟩
    rw [show (#[(83 : UInt8), 82, 73]).toList = [83, 82, 73] from rfl, hj3]
    refine add_bb (by simp; omega) (gc O (TL_cons (EV_local rfl (TL_nil ((path_octets_spec (n := n + 3) (P := P) O (by omega) hP).mono ?_ fun ax σ' z => hbad ax σ' ⟨fun g => z.1 g.1, z.2⟩)))))
    rintro r σ₄ ⟨hgp, rfl, e7⟩
    have hpl := pathBytes_len hgp
    refine add_bb (by simp; omega) (gc O (TL_cons (bc O (TL_cons (EV_local rfl (TL_nil (len_tup ?_ (TL_cons (EV_int (TL_nil ?_))))))))))
    · have := tellRows_len hw; omega
    refine ((count_octets_spec (n := n + 5) (P := P) (c := (tellRows f.2).length) (w := 4) O (by decide) hP).mono ?_ fun ax σ' z => ?_)
    · rintro r σ₅ ⟨rfl, _, e8⟩
      refine add_bb (by simp [be_length]; omega) (SN_local ?_)
      show TS _ _ _ _ (execs (_ :: _) _) _ _ _
      have htl := tellRows_len hw
      have hrl := rowsB_len hw
      have ebase : acc.toArray ++ [letter f.1].toArray ++ (pathBytes p).toArray ++ (be 4 (tellRows f.2).length).toArray = (acc ++ (letter f.1 :: (pathBytes p ++ be 4 (tellRows f.2).length))).toArray := by simp
      rw [ebase]
      have hbl : (acc ++ (letter f.1 :: (pathBytes p ++ be 4 (tellRows f.2).length))).length ≤ i * 50000 + 261 := by simp [be_length]; omega
      have hfile : ∀ out : List UInt8, out = (acc ++ (letter f.1 :: (pathBytes p ++ be 4 (tellRows f.2).length))) ++ rowsB f.2 → out = ((pathsOf fs).take (i + 1)).flatMap fun p => fileB p (fileOf fs p) := by
        rintro out rfl
        rw [flat_take _ hp, hacc, hff]
        unfold fileB
        simp
      generalize (acc ++ (letter f.1 :: (pathBytes p ++ be 4 (tellRows f.2).length))) = base at hbl hfile
      have e9 : Ex [] σ₁ σ₅ := ((e4.trans e6).trans e7).trans e8
      have done : small f → ∀ (ε : Loc) (σ' : Store), ε.lookup ("shelf" : Str) = some (.obj x) → ε.lookup ("found" : Str) = some (.bytes (base ++ rowsB f.2).toArray) → Ex [] σ₅ σ' → (σ' l = some (.list ((pathsOf fs).map .str))) ∧ WrI x fs σ₁ (i + 1) ε σ' := by
        intro hsm ε σ' q1 q2 q3
        have q4 := hfile _ rfl
        refine ⟨q3.get (e9.get hl2), q1, by rw [← q4]; exact q2, by rw [← q4, List.length_append, Nat.add_mul]; omega, e9.trans q3, ?_⟩
        intro p' hp'
        rw [List.take_add_one, hp] at hp'
        rcases List.mem_append.mp hp' with hp' | hp'
        · exact e5 p' hp'
        · simp at hp'; subst hp'; exact ⟨hgp, hff ▸ hsm⟩
      obtain ⟨fk, fc⟩ := f
      cases fc with
      | seq rows =>
        obtain ⟨wk, w1, w2, w3⟩ := hw
        have hk : ¬ fk = "relative" := w1
        refine TS_cons (TS_For rfl (EV_local rfl ⟨_, _, σ₅, goes_tup, fun _ _ e => e, trivial, ?_⟩))
        refine ForW_each (WsI x fk base rows σ₅) V.bytes rows (fun i' b hb ε σ' ⟨q1, q2, q3, q4⟩ => ?_) (fun ε σ' ⟨q1, q2, q3, q4⟩ => ?_) ⟨rfl, e1, by simp, Ex.refl⟩
        · refine TA_Name (SN_local (TS_cons (TS_If (TT_Compare (EV_local q1 (EV_str (eq_ss ⟨_, rfl, ?_⟩)))))))
          rw [if_neg (by show ¬ decide _ = true; rw [decide_eq_true_eq]; exact hk)]
          have hbs := w3 b (List.mem_of_getElem? hb)
          have hfl := flat_take_len rowB rows i'
          have hrl' : (rows.flatMap rowB).length ≤ 49000 := hrl
          refine TS_cons (TS_Assign (EV_BinOp (EV_local q3 (gc O (TL_cons (EV_local rfl (TL_nil ((row_octets_spec (n := n + 4) O (by omega)).mono ?_ fun _ _ z => z))))))))
          rintro r σ₆ ⟨rfl, e10⟩
          refine add_bb (by simp only [List.size_toArray, List.length_append, be_length, Array.size_append]; omega) (SN_local (TS_nil (TS_nil ⟨trivial, q1, q2, ?_, q4.trans e10⟩)))
          show some (V.bytes _) = some (V.bytes _)
          rw [flat_take _ hb]
          congr 2
          apply Array.ext'
          simp [rowB]
        · rw [List.take_length] at q3
          exact TS_nil (done trivial ε σ' q2 q3 q4)
      | rel es =>
        obtain ⟨wk, w1, w2, w3⟩ := hw
        have hk : fk = "relative" := w1
        refine TS_cons (TS_For rfl (EV_local rfl ⟨_, _, σ₅, goes_tup, fun _ _ e => e, trivial, ?_⟩))
        rw [tellRows_rel]
        refine ForW_each (WtI x fk base es σ₅) rowV (relRows es) (fun i' b hb ε σ' ⟨q1, q2, q3, q4, q5⟩ => ?_) (fun ε σ' ⟨q1, q2, q3, q4, q5⟩ => ?_) ⟨rfl, e1, by simp, Ex.refl, by simp⟩
        · refine TA_Name (SN_local (TS_cons (TS_If (TT_Compare (EV_local q1 (EV_str (eq_ss ⟨_, rfl, ?_⟩)))))))
          rw [if_pos (by show decide _ = true; rw [decide_eq_true_eq]; exact hk)]
          have hbm := List.mem_of_getElem? hb
          obtain ⟨hb1, hbs⟩ := w3 b (rel_mem hbm)
          have hfl := flat_take_len (fun r : Int × Array UInt8 => be 4 r.1.toNat ++ rowB r.2) (relRows es) i'
          have hrl' : ((relRows es).flatMap fun r => be 4 r.1.toNat ++ rowB r.2).length ≤ 49000 := hrl
          have hbn : b.1 = (b.1.toNat : Int) := by omega
          refine TS_cons (TS_Assign (EV_BinOp (EV_BinOp (EV_local q3 (gc O (TL_cons (EV_Sub (EV_local rfl (EV_int (sub_tup (j := 0) rfl rfl (TL_cons (EV_int (TL_nil ?_)))))))))))))
          rw [hbn]
          refine ((count_octets_spec (n := n + 5) (P := P) (c := b.1.toNat) (w := 4) O (by decide) hP).mono ?_ fun ax σ'' z => ?_)
          · rintro r σ₆ ⟨rfl, hlt, e10⟩
            have hlt' : b.1 < 4294967296 := by have : b.1.toNat < 4294967296 := hlt; omega
            refine add_bb (by simp only [List.size_toArray, List.length_append, be_length, Array.size_append]; omega) (gc O (TL_cons (EV_Sub (EV_local rfl (EV_int (sub_tup (j := 1) rfl rfl (TL_nil ((row_octets_spec (n := n + 4) O (by omega)).mono ?_ fun _ _ z => z))))))))
            rintro r σ₇ ⟨rfl, e11⟩
            refine add_bb (by simp only [List.size_toArray, List.length_append, be_length, Array.size_append]; omega) (SN_local (TS_nil (TS_nil ⟨trivial, q1, q2, ?_, (q4.trans e10).trans e11, ?_⟩)))
            · show some (V.bytes _) = some (V.bytes _)
              rw [flat_take _ hb]
              congr 2
              apply Array.ext'
              simp [rowB]
            · intro r hr
              rw [List.take_add_one, hb] at hr
              rcases List.mem_append.mp hr with hr | hr
              · exact q5 r hr
              · simp at hr; subst hr; exact hlt'
          · have hge : 4294967296 ≤ b.1.toNat := z.1
            refine hbad ax σ'' ⟨fun g => ?_, z.2.1, z.2.2.1, ((e7.trans e8).trans q4).trans z.2.2.2⟩
            have : b.1 < 4294967296 := g.2 b hbm
            omega
        · rw [List.take_length] at q3 q5
          exact TS_nil (done q5 ε σ' q2 q3 q4)
    · have := tellRows_len hw
      have h4 : 4294967296 ≤ (tellRows f.2).length := z.1
      omega
  · show TS _ _ _ _ (execs (_ :: _) _) _ _ _
    refine TS_cons (TS_Return (EV_local e2 ⟨?_, ?_, hE.trans e4⟩))
    · rw [List.take_length] at e5; exact e5
    · rw [List.take_length]; rfl
end
end Mine
end
section
open PySem PySem.W PyProof.Rows PySem.Calls PySem.Spec
set_option Elab.async false
set_option maxRecDepth 100000
set_option maxHeartbeats 0
namespace Mine
abbrev PR (α : Type) := Except Nat (α × Nat)
def takeP (b : List UInt8) (i m : Nat) : PR (List UInt8) := if b.length < i + m then .error b.length else .ok ((b.drop i).take m, i + m)
def num (xs : List UInt8) : Nat := xs.foldl (fun a o => a * 256 + o.toNat) 0
def countP (b : List UInt8) (i w : Nat) : PR Nat := match takeP b i w with
  | .error j => .error j
  | .ok (xs, i') => .ok (num xs, i')
theorem small_nat {k : Nat} (h : k < 4611686018427387904) : Builtin.Range.small 0 k 1 = true := small_one (by omega) (by omega) (by omega) (by omega)
theorem size_nat (k : Nat) : Builtin.Range.rangeSize 0 k 1 = (k : Nat) := by rw [rangeSize_up]; simp
theorem clip_nat {n k : Nat} (h : k ≤ n) : clipAt n (k : Int) = k := by
  have := clipAt_cast n (k : Int)
  rw [if_neg (by omega)] at this
  omega
theorem cut_nat {α : Type} {l : List α} {lo hi : Nat} (h1 : lo ≤ l.length) (h2 : hi ≤ l.length) : cut l (some (lo : Int)) (some (hi : Int)) = (l.drop lo).take (hi - lo) := by
  unfold cut
  simp only [Option.elim_some, clip_nat h1, clip_nat h2]
structure Rd (σ : Store) (r d : Addr) (b : List UInt8) (i : Nat) : Prop where
  r : σ r = some (.inst 226 d)
  d : σ d = some (.ns [("octets", .bytes b.toArray), ("at", .int i)])
def FltAt (j : Nat) (S : List Addr) (σ : Store) : AX → Store → Prop := Flt S σ fun a => a = .tup [.int 0, .int j]
inductive RQ {α : Type} (σ : Store) (r d : Addr) (b : List UInt8) (p : PR α) (val : α → V) (v : V) (σ' : Store) : Prop
  | mk (a : α) (i' : Nat) (h1 : p = .ok (a, i')) (h2 : v = val a) (h3 : Rd σ' r d b i') (h4 : Ex [d] σ σ')
inductive RXp {α : Type} (σ : Store) (d : Addr) (p : PR α) (ax : AX) (σ' : Store) : Prop
  | mk (j : Nat) (h1 : p = .error j) (h2 : FltAt j [d] σ ax σ')
theorem Rd.ne {σ : Store} {r d : Addr} {b : List UInt8} {i : Nat} (h : Rd σ r d b i) : r ≠ d := fun q => by have := h.r; rw [q, h.d] at this; cases this
theorem Rd.ex {S : List Addr} {σ σ' : Store} {r d : Addr} {b : List UInt8} {i : Nat} (h : Rd σ r d b i) (e : Ex S σ σ') (h1 : r ∉ S := by simp) (h2 : d ∉ S := by simp) : Rd σ' r d b i := ⟨e _ _ h.r h1, e _ _ h.d h2⟩
section
variable {C : Cx} {σ : Store} {n : Nat} {env : Env} {ε : Loc} {Q : V → Store → Prop} {X : AX → Store → Prop} {QS : Fl → Loc → Store → Prop}
theorem rd_at (O : L1 C) {r d : Addr} {b : List UInt8} {i : Nat} {ex : Bool} (h : Rd σ r d b i) (q : Q (.int i) σ) : OP1 C n env ε (fun v => getAttr v "at" ex) (.obj r) σ Q X :=
  attr_own O.ok h.r h.d (y := .int i) rfl rfl (O.k (f := fun K => plainGet K 226 _) (by k_is)) (O.k (f := fun K => hasDictIn K 226) (by k_is)) (O.k (f := fun K => findIn K (.ref 226) _) (by k_is)) (O.k (f := fun K => noGet K _) (by k_is)) q
theorem rd_octets (O : L1 C) {r d : Addr} {b : List UInt8} {i : Nat} {ex : Bool} (h : Rd σ r d b i) (q : Q (.bytes b.toArray) σ) : OP1 C n env ε (fun v => getAttr v "octets" ex) (.obj r) σ Q X :=
  attr_own O.ok h.r h.d (y := .bytes b.toArray) rfl rfl (O.k (f := fun K => plainGet K 226 _) (by k_is)) (O.k (f := fun K => hasDictIn K 226) (by k_is)) (O.k (f := fun K => findIn K (.ref 226) _) (by k_is)) (O.k (f := fun K => noGet K _) (by k_is)) q
theorem rd_meth (O : L1 C) {r d f : Addr} {b : List UInt8} {i : Nat} {nm : Str} {pl : Sem Bool} {QM : Value → List V → Store → Prop} (s : Rd σ r d b i) (h : QM (.ref f) [.obj r] σ)
    (hl : ([("octets", V.bytes b.toArray), ("at", .int i)] : List (Str × V)).lookup nm = none := by rfl) (h1 : plainGet (hd.heap_1 C.w.params) 226 nm = true := by k_is) (h2 : findIn (hd.heap_1 C.w.params) (.ref 226) nm = some (some (.ref f)) := by k_is)
    (h3 : isFn (hd.heap_1 C.w.params) (.ref f) = true := by k_is) : OPM C n env ε nm pl (.obj r) σ QM X :=
  meth_inst O.ok s.r s.d hl (O.k (f := fun K => plainGet K 226 nm) h1) (O.k (f := fun K => findIn K (.ref 226) nm) h2) (O.k (f := fun K => isFn K (.ref f)) h3) h
theorem rfault_spec (O : L1 C) {r : Addr} {what : Str} {j : Nat} :
    CALL C (n + 5) (.ref 188) [.obj r, .str what, .int j] σ (fun v σ' => ∃ e d, v = .obj e ∧ σ e = none ∧ σ d = none ∧ d ≠ e ∧ σ' = upd (upd σ e (.exc 60 (some d) true)) d (exNs what (.tup [.int 0, .int j]))) X := by
  refine CALL_def (names := ["self", "what", "at"]) O.ok (O.k (f := fun K => K.lookup 188) (by k_is)) (O.k (f := fun K => codeIn K _ _) (by k_is)) ?_ (by decide) (by decide) ?_
  · exact all3 fun _ _ _ => rfl
  intro L
  refine TS_cons (TS_Return (gc O (TL_cons (EV_local rfl (TL_cons (EV_Tuple (TL_cons (EV_int (TL_cons (EV_local rfl (TL_nil ⟨by simp, TL_nil ((fault_spec (n := n) O (.inl rfl)).mono (fun _ _ z => z) fun _ _ z => z)⟩)))))))))))
theorem taken_spec (O : L1 C) {r d : Addr} {b : List UInt8} {i m : Nat} (s : Rd σ r d b i) (hb : b.length ≤ 1000000) :
    CALL C (n + 7) (.ref 195) [.obj r, .int m] σ (RQ σ r d b (takeP b i m) fun xs => .bytes xs.toArray) (RXp σ d (takeP b i m)) := by
  refine CALL_def (names := ["self", "many"]) O.ok (O.k (f := fun K => K.lookup 195) (by k_is)) (O.k (f := fun K => codeIn K _ _) (by k_is)) ?_ (by decide) (by decide) ?_
  · exact all2 fun _ _ => rfl
  intro L
  refine TS_cons (TS_If (TT_Compare (EV_BinOp (EV_Attr (EV_local rfl (rd_at O s (EV_local rfl (add_ii (bc O (TL_cons (EV_Attr (EV_local rfl (rd_octets O s (TL_nil (len_b (by simp; omega) (gt_ii ⟨_, rfl, ?_⟩))))))))))))))))
  by_cases hlt : b.length < i + m
  · rw [if_pos (by simp; omega)]
    refine TS_cons (TS_Raise (n := n + 5) O.ok (EV_Method (EV_local rfl (rd_meth O s (CW_cons (TL_cons (EV_str (TL_cons (bc O (TL_cons (EV_Attr (EV_local rfl (rd_octets O s (TL_nil (len_b (by simp; omega) (TL_nil ⟨Kp_K O.ok (O.k (f := fun K => keepIn K _) (by k_is)), OPL_call ((rfault_spec (n := n + 1) (j := b.length) O).mono ?_ fun _ _ z => z)⟩))))))))))))))))
    rintro v σ₂ ⟨e, d', rfl, e1, e2, e3, rfl⟩
    exact raised O (S := [d]) (P := fun a => a = .tup [.int 0, .int b.length]) (σ₀ := σ) (X := RXp σ d (takeP b i m)) Ex.refl e1 e2 e3 rfl e1 fun ax σ₂ z => ⟨_, by unfold takeP; rw [if_pos hlt], z⟩
  · rw [if_neg (by simp; omega)]
    refine TS_nil ?_
    show TS _ _ _ _ (execs (_ :: _) _) _ _ _
    refine TS_cons (TS_SetAttr O.ok (EV_BinOp (EV_Attr (EV_local rfl (rd_at O s (EV_local rfl (add_ii (EV_local rfl ?_))))))))
    refine ⟨r, 226, d, _, rfl, s.r, s.d, by simp, O.k (f := fun K => findIn K _ _) (by k_is), O.k (f := fun K => plainOver K _) (by k_is), O.k (f := fun K => takerIn K _ _) (by k_is), O.k (f := fun K => hasDictIn K _) (by k_is), ?_⟩
    have hσ' : upd σ d (.ns (putA "at" (.int ((i : Int) + m)) [("octets", .bytes b.toArray), ("at", .int i)])) = upd σ d (.ns [("octets", .bytes b.toArray), ("at", .int ((i + m : Nat) : Int))]) := rfl
    rw [hσ']
    have s' : Rd (upd σ d (.ns [("octets", .bytes b.toArray), ("at", .int ((i + m : Nat) : Int))])) r d b (i + m) := ⟨by rw [upd_ne _ _ s.ne]; exact s.r, upd_self _ _ _⟩
    show TS _ _ _ _ (execs (_ :: _) _) _ _ _
    refine TS_cons (TS_Return (EV_Cut (EV_Attr (EV_local rfl (rd_octets O s' ?_)))))
    refine EV_BinOp (EV_Attr (EV_local rfl (rd_at O s' (EV_local rfl (sub_ii ⟨_, rfl, EV_Attr (EV_local rfl (rd_at O s' ⟨_, rfl, cut_bytes (by simpa using hb) ?_⟩))⟩)))))
    refine ⟨_, _, by unfold takeP; rw [if_neg hlt], ?_, s', Ex.set (by simp)⟩
    have e1 : ((i + m : Nat) : Int) - (m : Int) = ((i : Nat) : Int) := by omega
    rw [e1, List.toList_toArray, cut_nat (by omega) (by omega)]
    congr 3
    omega
end
end Mine
end
section
open PySem PySem.W PyProof.Rows PySem.Calls PySem.Spec
set_option Elab.async false
set_option maxRecDepth 100000
set_option maxHeartbeats 0
namespace Mine
def bindP {α β : Type} (p : PR α) (f : α → Nat → PR β) : PR β := match p with
  | .error j => .error j
  | .ok (a, i) => f a i
theorem countP_eq (b : List UInt8) (i w : Nat) : countP b i w = bindP (takeP b i w) fun xs i' => .ok (num xs, i') := by
  unfold countP bindP; cases takeP b i w <;> rfl
def badSign (c : UInt8) : Bool := !(decide (32 ≤ c.toNat) && decide (c.toNat ≤ 126))
def strOf (xs : List UInt8) : Str := ⟨(xs.map (·.toNat)).toArray⟩
def aheadOk (ahead : Option Str) (found : Str) : Bool := match ahead with
  | none => true
  | some a => strLt a found
def pathP (b : List UInt8) (i : Nat) (ahead : Option Str) : PR Str := bindP (countP b i 1) fun n i1 => bindP (takeP b i1 n) fun xs i2 => match xs.findIdx? badSign with
  | some k => .error (i + 1 + k)
  | none => if aheadOk ahead (strOf xs) then .ok (strOf xs, i2) else .error i
def kindOf (c : UInt8) : Option Str := if c = 83 then some "sequential" else if c = 82 then some "relative" else if c = 73 then some "indexed" else none
def kindP (b : List UInt8) (i : Nat) : PR Str := bindP (takeP b i 1) fun xs i1 => match kindOf (xs.headD 0) with
  | some k => .ok (k, i1)
  | none => .error i
def seqRowP (b : List UInt8) (i : Nat) : PR (List UInt8) := bindP (countP b i 2) fun n i1 => takeP b i1 n
def relRowP (b : List UInt8) (i ahead : Nat) : PR (Nat × List UInt8) := bindP (countP b i 4) fun k i1 => if k ≤ ahead then .error i else bindP (seqRowP b i1) fun xs i2 => .ok ((k, xs), i2)
theorem num_take {xs : List UInt8} {i : Nat} {c : UInt8} (h : xs[i]? = some c) : num (xs.take (i + 1)) = num (xs.take i) * 256 + c.toNat := by
  unfold num; rw [List.take_add_one, h, List.foldl_append]; rfl
theorem takeP_ok {b : List UInt8} {i m i' : Nat} {xs : List UInt8} (h : takeP b i m = .ok (xs, i')) : xs = (b.drop i).take m ∧ i' = i + m ∧ i + m ≤ b.length ∧ xs.length = m := by
  unfold takeP at h
  split at h
  · cases h
  · cases h
    refine ⟨rfl, rfl, by omega, ?_⟩
    rw [List.length_take, List.length_drop]; omega
section
variable {C : Cx} {σ : Store} {n : Nat} {env : Env} {ε : Loc} {Q : V → Store → Prop} {X : AX → Store → Prop} {QS : Fl → Loc → Store → Prop}
theorem RXp.sub {α β : Type} {σ σ₁ : Store} {d : Addr} {p : PR α} {f : α → Nat → PR β} {ax : AX} {σ' : Store} (e : Ex [d] σ σ₁) (h : RXp σ₁ d p ax σ') : RXp σ d (bindP p f) ax σ' := by
  obtain ⟨j, h1, h2, h3, h4⟩ := h
  exact ⟨j, by unfold bindP; rw [h1], h2, h3, e.trans h4⟩
theorem count_spec (O : L1 C) {r d : Addr} {b : List UInt8} {i w : Nat} (s : Rd σ r d b i) (hb : b.length ≤ 1000000) :
    CALL C (n + 9) (.ref 202) [.obj r, .int w] σ (RQ σ r d b (countP b i w) fun k => .int k) (RXp σ d (countP b i w)) := by
  refine CALL_def (names := ["self", "width"]) O.ok (O.k (f := fun K => K.lookup 202) (by k_is)) (O.k (f := fun K => codeIn K _ _) (by k_is)) ?_ (by decide) (by decide) ?_
  · exact all2 fun _ _ => rfl
  intro L
  refine TS_cons (TS_Assign (EV_int (SN_local ?_)))
  show TS _ _ _ _ (execs (_ :: _) _) _ _ _
  refine TS_cons (TS_For_it rfl (IT_val (EV_Method (EV_local rfl (rd_meth O s (CW_cons (TL_cons (EV_local rfl (TL_nil ⟨Kp_K O.ok (O.k (f := fun K => keepIn K _) (by k_is)), OPL_call ((taken_spec (n := n + 1) O s hb).mono ?_ fun ax σ' z => ?_)⟩)))))))))
  · rintro v σ₁ ⟨xs, i', hx, rfl, s1, e1⟩
    refine ⟨_, _, goes_bytes, ?_⟩
    rw [List.toList_toArray]
    refine ForW_each (fun i ε σ' => ε.lookup ("found" : Str) = some (.int (num (xs.take i))) ∧ σ' = σ₁) _ xs (fun i c hc ε σ' ⟨q1, q2⟩ => ?_) (fun ε σ' ⟨q1, q2⟩ => ?_) ⟨rfl, rfl⟩
    · subst q2
      refine TA_Name (SN_local (TS_cons (TS_Assign (EV_BinOp (EV_BinOp (EV_local q1 (EV_int (mul_ii (IntMulOk.of_right (by decide +kernel)) (EV_local rfl (add_ii (SN_local (TS_nil ⟨trivial, ?_, rfl⟩))))))))))))
      show some (V.int _) = some (V.int _)
      rw [num_take hc]
      push_cast; rfl
    · subst q2
      show TS _ _ _ _ (execs (_ :: _) _) _ _ _
      rw [List.take_length] at q1
      refine TS_cons (TS_Return (EV_local q1 ⟨num xs, i', ?_, rfl, s1, e1⟩))
      rw [countP_eq, hx]; rfl
  · rw [countP_eq]; exact RXp.sub Ex.refl z
theorem kindAt_of (c : UInt8) : (kindOf c = none → kindAt c < 0) ∧ (∀ k, kindOf c = some k → ∃ j : Nat, kindAt c = j ∧ seqIndex? (j : Int) 3 = some j ∧ (kinds.map V.str)[j]? = some (.str k)) := by
  unfold kindOf kindAt
  by_cases h1 : c = 83
  · subst h1
    exact ⟨by simp, fun k e => ⟨0, by decide, rfl, by simp at e; subst e; rfl⟩⟩
  by_cases h2 : c = 82
  · subst h2
    exact ⟨by simp, fun k e => ⟨1, by decide, rfl, by simp at e; subst e; rfl⟩⟩
  by_cases h3 : c = 73
  · subst h3
    exact ⟨by simp, fun k e => ⟨2, by decide, rfl, by simp at e; subst e; rfl⟩⟩
  simp [h1, h2, h3]
theorem kind_spec (O : L1 C) {r d : Addr} {b : List UInt8} {i : Nat} (s : Rd σ r d b i) (hb : b.length ≤ 1000000) :
    CALL C (n + 9) (.ref 216) [.obj r] σ (RQ σ r d b (kindP b i) .str) (RXp σ d (kindP b i)) := by
  refine CALL_def (names := ["self"]) O.ok (O.k (f := fun K => K.lookup 216) (by k_is)) (O.k (f := fun K => codeIn K _ _) (by k_is)) ?_ (by decide) (by decide) ?_
  · exact all1 fun _ => rfl
  intro L
  refine TS_cons (TS_Assign (EV_Method (EV_letters O (meth_bytes slot_find type_find (CW_cons (TL_cons (EV_Method (EV_local rfl (rd_meth O s (CW_cons (TL_cons (EV_int (TL_nil ⟨Kp_K O.ok (O.k (f := fun K => keepIn K _) (by k_is)), OPL_call ((taken_spec (n := n + 1) (m := 1) O s hb).mono ?_ fun ax σ' z => ?_)⟩)))))))))))))
  · rintro v σ₁ ⟨xs, i', hx, rfl, s1, e1⟩
    obtain ⟨hx1, rfl, hx2, hx3⟩ := takeP_ok hx
    obtain ⟨c, rfl⟩ : ∃ c, xs = [c] := by
      match xs, hx3 with
      | [c], _ => exact ⟨c, rfl⟩
    refine TL_nil ⟨Kp_builtin, find_b (SN_local ?_)⟩
    show TS _ _ _ _ (execs (_ :: _) _) _ _ _
    obtain ⟨k1, k2⟩ := kindAt_of c
    refine TS_cons (TS_If (TT_Compare (EV_local rfl (EV_int (lt_ii ⟨_, rfl, ?_⟩)))))
    cases hk : kindOf c with
    | none =>
      rw [if_pos (by simpa using k1 hk)]
      refine TS_cons (TS_Raise (n := n + 7) O.ok (EV_Method (EV_local rfl (rd_meth (f := 188) O s1 (CW_cons (TL_cons (EV_str (TL_cons (EV_BinOp (EV_Attr (EV_local rfl (rd_at O s1 (EV_int (sub_ii (TL_nil ⟨Kp_K O.ok (O.k (f := fun K => keepIn K _) (by k_is)), OPL_call ?_⟩)))))))))))))))
      rw [show ((i + 1 : Nat) : Int) - 1 = ((i : Nat) : Int) from by omega]
      refine ((rfault_spec (n := n + 3) (j := i) O).mono ?_ fun _ _ z => z)
      rintro v σ₂ ⟨e, d', rfl, q1, q2, q3, rfl⟩
      refine raised O (S := [d]) (P := fun a => a = .tup [.int 0, .int i]) (σ₀ := σ) (X := RXp σ d (kindP b i)) e1 q1 q2 q3 rfl (e1.gone q1 ?_) fun ax σ₂ z => ⟨_, by unfold kindP; rw [hx]; simp [bindP, hk], z⟩
      intro q
      rw [List.mem_singleton] at q; rw [q, s1.d] at q1; cases q1
    | some k =>
      obtain ⟨j, e2, e3, e4⟩ := k2 k hk
      rw [if_neg (by rw [e2]; simp)]
      refine TS_nil ?_
      show TS _ _ _ _ (execs (_ :: _) _) _ _ _
      have hj : j < 3 := by have := (List.getElem?_eq_some_iff.mp e4).1; simpa [kinds] using this
      refine TS_cons (TS_Return (EV_Sub (EV_kinds O (EV_local rfl ?_))))
      rw [e2]
      exact sub_tup (j := j) e3 e4 ⟨k, i + 1, by unfold kindP; rw [hx]; simp [bindP, hk], rfl, s1, e1⟩
  · exact RXp.sub Ex.refl z
end
end Mine
end
section
open PySem PySem.W PyProof.Rows PySem.Calls PySem.Spec
set_option Elab.async false
set_option maxRecDepth 100000
set_option maxHeartbeats 0
namespace Mine
theorem first_bad : ∀ {xs : List UInt8} {i : Nat} {c : UInt8}, xs[i]? = some c → badSign c = true → (∀ c ∈ xs.take i, badSign c = false) → xs.findIdx? badSign = some i
  | [], _, _, h, _, _ => by simp at h
  | x :: xs, 0, c, h, hb, _ => by simp at h; subst h; simp [List.findIdx?_cons, hb]
  | x :: xs, i + 1, c, h, hb, hg => by
    have h0 : badSign x = false := hg x (by simp)
    have := first_bad (xs := xs) (i := i) (c := c) (by simpa using h) hb fun c hc => hg c (by rw [List.take_succ_cons]; exact .tail _ hc)
    simp [List.findIdx?_cons, h0, this]
def aheadV : Option Str → V
  | none => .none
  | some a => .str a
section
variable {C : Cx} {σ : Store} {n : Nat} {env : Env} {ε : Loc} {Q : V → Store → Prop} {X : AX → Store → Prop} {QS : Fl → Loc → Store → Prop}
inductive RpI (r : Addr) (i : Nat) (xs : List UInt8) (ahead : Option Str) (σ₂ : Store) (k : Nat) (ε : Loc) (σ' : Store) : Prop
  | mk (q1 : ε.lookup ("self" : Str) = some (.obj r)) (q2 : ε.lookup ("begin" : Str) = some (.int i)) (q3 : ε.lookup ("signs" : Str) = some (.bytes xs.toArray)) (q4 : ε.lookup ("ahead" : Str) = some (aheadV ahead)) (q5 : σ' = σ₂) (q6 : ∀ c ∈ xs.take k, badSign c = false)
theorem rpath_spec (O : L1 C) {r d : Addr} {b : List UInt8} {i : Nat} {ahead : Option Str} (s : Rd σ r d b i) (hb : b.length ≤ 1000000) :
    CALL C (n + 11) (.ref 209) [.obj r, aheadV ahead] σ (RQ σ r d b (pathP b i ahead) .str) (RXp σ d (pathP b i ahead)) := by
  refine CALL_def (names := ["self", "ahead"]) O.ok (O.k (f := fun K => K.lookup 209) (by k_is)) (O.k (f := fun K => codeIn K _ _) (by k_is)) ?_ (by decide) (by decide) ?_
  · exact all2 fun _ _ => rfl
  intro L
  refine TS_cons (TS_Assign (EV_Attr (EV_local rfl (rd_at O s (SN_local ?_)))))
  show TS _ _ _ _ (execs (_ :: _) _) _ _ _
  refine TS_cons (TS_Assign (EV_Method (EV_local rfl (rd_meth O s (CW_cons (TL_cons (EV_Method (EV_local rfl (rd_meth O s (CW_cons (TL_cons (EV_int (TL_nil ⟨Kp_K O.ok (O.k (f := fun K => keepIn K _) (by k_is)), OPL_call ((count_spec (n := n + 1) (w := 1) O s hb).mono ?_ fun ax σ' z => RXp.sub Ex.refl z)⟩)))))))))))))
  rintro v σ₁ ⟨m, i1, hm, rfl, s1, e1⟩
  refine TL_nil ⟨Kp_K O.ok (O.k (f := fun K => keepIn K _) (by k_is)), OPL_call ((taken_spec (n := n + 3) (m := m) O s1 hb).mono ?_ fun ax σ' z => ?_)⟩
  · rintro v σ₂ ⟨xs, i2, hx, rfl, s2, e2⟩
    have hp : pathP b i ahead = match xs.findIdx? badSign with | some k => .error (i + 1 + k) | none => if aheadOk ahead (strOf xs) then .ok (strOf xs, i2) else .error i := by
      unfold pathP; rw [hm]; show bindP (takeP b i1 m) _ = _; rw [hx]; rfl
    have e12 := e1.trans e2
    have gone2 : ∀ a, σ₂ a = none → σ a = none := fun a h => by
      refine e12.gone h fun q => ?_
      rw [List.mem_singleton] at q; rw [q, s2.d] at h; cases h
    have hxl : xs.length ≤ 1000000 := by
      obtain ⟨_, _, h3, h4⟩ := takeP_ok hx; omega
    refine SN_local ?_
    show TS _ _ _ _ (execs (_ :: _) _) _ _ _
    refine TS_cons (TS_ForEnum rfl (bl O ⟨rfl, rfl⟩) (EV_local rfl ⟨_, rfl, ?_⟩))
    refine ForW_each (RpI r i xs ahead σ₂) _ _ (fun k k' hk ε σ' ⟨q1, q2, q3, q4, q5, q6⟩ => ?_) (fun ε σ' ⟨q1, q2, q3, q4, q5, q6⟩ => ?_) ⟨rfl, rfl, rfl, rfl, rfl, by simp⟩
    · subst q5
      obtain ⟨rfl, hkl⟩ : k = k' ∧ k < xs.length := by
        have h1 := (List.getElem?_eq_some_iff.mp hk)
        obtain ⟨h2, h3⟩ := h1
        simp at h2 h3
        exact ⟨h3, h2⟩
      obtain ⟨c, hc⟩ : ∃ c, xs[k]? = some c := ⟨xs[k], List.getElem?_eq_getElem hkl⟩
      have hcd : (xs.toArray.toList.getD k 0) = c := by simp [List.getD, hc]
      rw [hcd]
      refine TA_Tuple rfl rfl (TA_Name (SN_local (TA_Name (SN_local ?_))))
      refine TS_cons (TS_If (TT_Not (TT.mono (Q := fun b σ₁ => b = !badSign c ∧ σ₁ = σ') ?_ (fun b₀ σ₃ z => ?_) fun _ _ z => z)))
      · refine TT_Chain (EV_int (EV_local rfl (le_ii ⟨_, rfl, ?_⟩)))
        unfold badSign
        by_cases h32 : 32 ≤ c.toNat
        · rw [if_pos (by simp; omega)]
          refine EV_int (le_ii ⟨_, rfl, ?_, rfl⟩)
          have : ((c.toNat : Int) ≤ 126) ↔ c.toNat ≤ 126 := by omega
          simp [h32, this]
        · rw [if_neg (by simp; omega)]
          exact ⟨by simp [h32], rfl⟩
      obtain ⟨rfl, rfl⟩ := z
      cases hbad : badSign c with
      | true =>
        refine TS_cons (TS_Raise (n := n + 9) O.ok (EV_Method (EV_local q1 (rd_meth (f := 188) O s2 (CW_cons (TL_cons (EV_str (TL_cons (EV_BinOp (EV_BinOp (EV_local q2 (EV_int (add_ii (EV_local rfl (add_ii (TL_nil ⟨Kp_K O.ok (O.k (f := fun K => keepIn K _) (by k_is)), OPL_call ?_⟩) )))))))))))))))
        rw [show ((i : Int) + 1 + (k : Int)) = ((i + 1 + k : Nat) : Int) from by push_cast; rfl]
        refine ((rfault_spec (n := n + 5) (j := i + 1 + k) O).mono ?_ fun _ _ z => z)
        rintro v σ₄ ⟨e, d', rfl, p1, p2, p3, rfl⟩
        refine raised O (S := [d]) (P := fun a => a = .tup [.int 0, .int (i + 1 + k : Nat)]) (σ₀ := σ) (X := RXp σ d (pathP b i ahead)) e12 p1 p2 p3 rfl (gone2 e p1) fun ax σ₂ z => ⟨i + 1 + k, ?_, z⟩
        rw [hp, first_bad hc hbad q6]
      | false =>
        refine TS_nil (TS_nil ⟨trivial, q1, q2, q3, q4, rfl, ?_⟩)
        intro c' hc'
        rw [List.take_add_one, hc] at hc'
        rcases List.mem_append.mp hc' with hc' | hc'
        · exact q6 c' hc'
        · simp at hc'; subst hc'; exact hbad
    · subst q5
      have hall : ∀ c ∈ xs, badSign c = false := by
        intro c hc
        refine q6 c ?_
        rw [List.length_range, List.take_of_length_le (by simp)]
        exact hc
      have hnone : xs.findIdx? badSign = none := by rw [List.findIdx?_eq_none_iff]; exact hall
      rw [hnone] at hp
      show TS _ _ _ _ (execs (_ :: _) _) _ _ _
      refine TS_cons (TS_Assign (EV_Method (EV_local q3 (meth_bytes FB.slot_bytes_decode FB.type_bytes_decode (CW_cons (TL_cons (EV_str (TL_nil ⟨Kp_builtin, decode_b ?_ (by simpa using hxl) (SN_local ?_)⟩))))))))
      · intro c hc
        have := hall c (by simpa using hc)
        simp [badSign] at this
        omega
      rw [List.toList_toArray]
      show TS _ _ _ _ (execs (_ :: _) _) _ _ _
      have hret : ∀ (ok : Bool), aheadOk ahead (strOf xs) = ok → (if ok then RQ σ r d b (pathP b i ahead) V.str (.str (strOf xs)) σ' else pathP b i ahead = .error i) := by
        intro ok h
        cases ok with
        | true => rw [if_pos rfl]; exact ⟨strOf xs, i2, by rw [hp]; simp [h], rfl, s2, e12⟩
        | false => rw [if_neg (by simp)]; rw [hp]; simp [h]
      refine TS_cons (TS_If (TT.mono (Q := fun b σ₁ => b = (!aheadOk ahead (strOf xs)) ∧ σ₁ = σ') ?_ (fun b₀ σ₃ z => ?_) fun _ _ z => z))
      · cases ahead with
        | none =>
          refine TT_BoolOp (TT_And (TT_Compare (EV_local q4 (EV_none (isnot_none false (fun h v r => by rw [show v = _ from r]; rfl) ⟨_, rfl, ?_⟩)))))
          rw [if_neg (by simp)]
          exact ⟨rfl, rfl⟩
        | some a =>
          refine TT_BoolOp (TT_And (TT_Compare (EV_local q4 (EV_none (isnot_none true (fun h v r => by obtain ⟨t, rfl⟩ := r; rfl) ⟨_, rfl, ?_⟩)))))
          rw [if_pos rfl]
          refine TT_And (TT_Compare (EV_local rfl (EV_local q4 (le_ss ⟨_, rfl, ?_⟩))))
          have e0 : aheadOk (some a) (strOf xs) = strLt a (strOf xs) := rfl
          show (if (!strLt a (strOf xs)) = true then _ else _)
          cases hlt : strLt a (strOf xs) with
          | true => rw [if_neg (by simp)]; exact ⟨by rw [e0, hlt]; rfl, rfl⟩
          | false => rw [if_pos (by simp)]; exact TT_And_nil ⟨by rw [e0, hlt]; rfl, rfl⟩
      obtain ⟨rfl, rfl⟩ := z
      have hr := hret _ rfl
      cases hok : aheadOk ahead (strOf xs) with
      | true =>
        rw [hok, if_pos rfl] at hr
        rw [if_neg (by simp)]
        refine TS_nil ?_
        show TS _ _ _ _ (execs (_ :: _) _) _ _ _
        exact TS_cons (TS_Return (EV_local rfl hr))
      | false =>
        rw [hok, if_neg (by simp)] at hr
        rw [if_pos (by simp)]
        refine TS_cons (TS_Raise (n := n + 9) O.ok (EV_Method (EV_local q1 (rd_meth (f := 188) O s2 (CW_cons (TL_cons (EV_str (TL_cons (EV_local q2 (TL_nil ⟨Kp_K O.ok (O.k (f := fun K => keepIn K _) (by k_is)), OPL_call ((rfault_spec (n := n + 5) (j := i) O).mono ?_ fun _ _ z => z)⟩))))))))))
        rintro v σ₄ ⟨e, d', rfl, p1, p2, p3, rfl⟩
        exact raised O (S := [d]) (P := fun a => a = .tup [.int 0, .int i]) (σ₀ := σ) (X := RXp σ d (pathP b i ahead)) e12 p1 p2 p3 rfl (gone2 e p1) fun ax σ₂ z => ⟨i, hr, z⟩
  · obtain ⟨j, h1, h2, h3, h4⟩ := z
    refine ⟨j, ?_, h2, h3, e1.trans h4⟩
    unfold pathP; rw [hm]; show bindP (takeP b i1 m) _ = _; rw [h1]; rfl
end
end Mine
end
section
open PySem PySem.W PyProof.Rows PySem.Calls PySem.Spec
set_option Elab.async false
set_option maxRecDepth 100000
set_option maxHeartbeats 0
namespace Mine
section
variable {C : Cx} {σ : Store} {n : Nat} {env : Env} {ε : Loc} {Q : V → Store → Prop} {X : AX → Store → Prop} {QS : Fl → Loc → Store → Prop}
theorem seqrow_spec (O : L1 C) {r d : Addr} {b : List UInt8} {i : Nat} {k : Str} {lo : Int} (s : Rd σ r d b i) (hb : b.length ≤ 1000000) (hk : k ≠ "relative") :
    CALL C (n + 11) (.ref 223) [.obj r, .str k, .int lo] σ (RQ σ r d b (seqRowP b i) fun xs => .bytes xs.toArray) (RXp σ d (seqRowP b i)) := by
  refine CALL_def (names := ["self", "kind", "ahead"]) O.ok (O.k (f := fun K => K.lookup 223) (by k_is)) (O.k (f := fun K => codeIn K _ _) (by k_is)) ?_ (by decide) (by decide) ?_
  · exact all3 fun _ _ _ => rfl
  intro L
  refine TS_cons (TS_If (TT_Compare (EV_local rfl (EV_str (ne_ss ⟨_, rfl, ?_⟩)))))
  rw [if_pos (by simpa using hk)]
  refine TS_cons (TS_Return (EV_Method (EV_local rfl (rd_meth O s (CW_cons (TL_cons (EV_Method (EV_local rfl (rd_meth O s (CW_cons (TL_cons (EV_int (TL_nil ⟨Kp_K O.ok (O.k (f := fun K => keepIn K _) (by k_is)), OPL_call ((count_spec (n := n + 1) (w := 2) O s hb).mono ?_ fun ax σ' z => RXp.sub Ex.refl z)⟩)))))))))))))
  rintro v σ₁ ⟨m, i1, hm, rfl, s1, e1⟩
  refine TL_nil ⟨Kp_K O.ok (O.k (f := fun K => keepIn K _) (by k_is)), OPL_call ((taken_spec (n := n + 3) (m := m) O s1 hb).mono ?_ fun ax σ' z => ?_)⟩
  · rintro v σ₂ ⟨xs, i2, hx, rfl, s2, e2⟩
    exact ⟨xs, i2, by unfold seqRowP; rw [hm]; exact hx, rfl, s2, e1.trans e2⟩
  · obtain ⟨j, h1, h2, h3, h4⟩ := z
    exact ⟨j, by unfold seqRowP; rw [hm]; exact h1, h2, h3, e1.trans h4⟩
theorem relrow_spec (O : L1 C) {r d : Addr} {b : List UInt8} {i lo : Nat} (s : Rd σ r d b i) (hb : b.length ≤ 1000000) :
    CALL C (n + 11) (.ref 223) [.obj r, .str "relative", .int lo] σ (RQ σ r d b (relRowP b i lo) fun p => .tup [.int p.1, .bytes p.2.toArray]) (RXp σ d (relRowP b i lo)) := by
  refine CALL_def (names := ["self", "kind", "ahead"]) O.ok (O.k (f := fun K => K.lookup 223) (by k_is)) (O.k (f := fun K => codeIn K _ _) (by k_is)) ?_ (by decide) (by decide) ?_
  · exact all3 fun _ _ _ => rfl
  intro L
  refine TS_cons (TS_If (TT_Compare (EV_local rfl (EV_str (ne_ss ⟨_, rfl, ?_⟩)))))
  rw [if_neg (by simp)]
  refine TS_nil ?_
  show TS _ _ _ _ (execs (_ :: _) _) _ _ _
  refine TS_cons (TS_Assign (EV_Attr (EV_local rfl (rd_at O s (SN_local ?_)))))
  show TS _ _ _ _ (execs (_ :: _) _) _ _ _
  refine TS_cons (TS_Assign (EV_Method (EV_local rfl (rd_meth O s (CW_cons (TL_cons (EV_int (TL_nil ⟨Kp_K O.ok (O.k (f := fun K => keepIn K _) (by k_is)), OPL_call ((count_spec (n := n + 1) (w := 4) O s hb).mono ?_ fun ax σ' z => RXp.sub Ex.refl z)⟩))))))))
  rintro v σ₁ ⟨k, i1, hm, rfl, s1, e1⟩
  refine SN_local ?_
  show TS _ _ _ _ (execs (_ :: _) _) _ _ _
  refine TS_cons (TS_If (TT_Compare (EV_local rfl (EV_local rfl (le_ii ⟨_, rfl, ?_⟩)))))
  have hp : relRowP b i lo = if k ≤ lo then .error i else bindP (seqRowP b i1) fun xs i2 => .ok ((k, xs), i2) := by unfold relRowP; rw [hm]; rfl
  by_cases hle : k ≤ lo
  · rw [if_pos (by simp; omega)]
    rw [if_pos hle] at hp
    refine TS_cons (TS_Raise (n := n + 9) O.ok (EV_Method (EV_local rfl (rd_meth (f := 188) O s1 (CW_cons (TL_cons (EV_str (TL_cons (EV_local rfl (TL_nil ⟨Kp_K O.ok (O.k (f := fun K => keepIn K _) (by k_is)), OPL_call ((rfault_spec (n := n + 5) (j := i) O).mono ?_ fun _ _ z => z)⟩))))))))))
    rintro v σ₄ ⟨e, d', rfl, p1, p2, p3, rfl⟩
    refine raised O (S := [d]) (P := fun a => a = .tup [.int 0, .int i]) (σ₀ := σ) (X := RXp σ d (relRowP b i lo)) e1 p1 p2 p3 rfl (e1.gone p1 ?_) fun ax σ₂ z => ⟨i, hp, z⟩
    intro q
    rw [List.mem_singleton] at q; rw [q, s1.d] at p1; cases p1
  · rw [if_neg (by simp; omega)]
    rw [if_neg hle] at hp
    refine TS_nil ?_
    show TS _ _ _ _ (execs (_ :: _) _) _ _ _
    have hX : ∀ {ax : AX} {σ' : Store}, RXp σ₁ d (seqRowP b i1) ax σ' → RXp σ d (relRowP b i lo) ax σ' := by
      rintro ax σ' ⟨j, h1, h2, h3, h4⟩
      exact ⟨j, by rw [hp, h1]; rfl, h2, h3, e1.trans h4⟩
    refine TS_cons (TS_Return (EV_Tuple (TL_cons (EV_local rfl (TL_cons (EV_Method (EV_local rfl (rd_meth O s1 (CW_cons (TL_cons (EV_Method (EV_local rfl (rd_meth O s1 (CW_cons (TL_cons (EV_int (TL_nil ⟨Kp_K O.ok (O.k (f := fun K => keepIn K _) (by k_is)), OPL_call ((count_spec (n := n + 1) (w := 2) O s1 hb).mono ?_ fun ax σ' z => hX (RXp.sub Ex.refl z))⟩)))))))))))))))))
    rintro v σ₂ ⟨m, i2, hm2, rfl, s2, e2⟩
    refine TL_nil ⟨Kp_K O.ok (O.k (f := fun K => keepIn K _) (by k_is)), OPL_call ((taken_spec (n := n + 3) (m := m) O s2 hb).mono ?_ fun ax σ' z => ?_)⟩
    · rintro v σ₃ ⟨xs, i3, hx, rfl, s3, e3⟩
      refine TL_nil ⟨by simp, (k, xs), i3, ?_, rfl, s3, (e1.trans e2).trans e3⟩
      rw [hp]; unfold seqRowP; rw [hm2]; show bindP (takeP b i2 m) _ = _; rw [hx]; rfl
    · obtain ⟨j, h1, h2, h3, h4⟩ := z
      exact hX ⟨j, by unfold seqRowP; rw [hm2]; exact h1, h2, h3, e2.trans h4⟩
inductive RdrQ (σ : Store) (b : List UInt8) (r : V) (σ' : Store) : Prop
  | mk (x d : Addr) (h1 : r = .obj x) (h2 : σ x = none) (h3 : σ d = none) (h4 : Rd σ' x d b 0) (h5 : Ex [] σ σ')
theorem reader_spec (O : L1 C) {b : List UInt8} : CALL C (n + 3) (.ref 226) [.bytes b.toArray] σ (RdrQ σ b) X := by
  refine CALL_make O.ok (O.k (f := fun K => makesIn K 226) (by k_is)) (O.k (f := fun K => findIn K _ _) (by k_is)) (O.k (f := fun K => isFn K _) (by k_is)) fun x d hx hd hne => ?_
  refine CALL_def (names := ["self", "octets"]) O.ok (O.k (f := fun K => K.lookup 181) (by k_is)) (O.k (f := fun K => codeIn K _ _) (by k_is)) ?_ (by decide) (by decide) ?_
  · exact all2 fun _ _ => rfl
  intro L
  refine TS_cons (TS_SetAttr O.ok (EV_local rfl (EV_local rfl ?_)))
  refine ⟨x, 226, d, [], rfl, by rw [upd_self], by rw [upd_ne _ _ (Ne.symm hne), upd_self], by simp, O.k (f := fun K => findIn K _ _) (by k_is), O.k (f := fun K => plainOver K _) (by k_is), O.k (f := fun K => takerIn K _ _) (by k_is), O.k (f := fun K => hasDictIn K _) (by k_is), ?_⟩
  show TS _ _ _ _ (execs (_ :: _) _) _ _ _
  refine TS_cons (TS_SetAttr O.ok (EV_int (EV_local rfl ?_)))
  refine ⟨x, 226, d, _, rfl, by rw [upd_ne _ _ hne, upd_self], upd_self _ _ _, by simp [putA], O.k (f := fun K => findIn K _ _) (by k_is), O.k (f := fun K => plainOver K _) (by k_is), O.k (f := fun K => takerIn K _ _) (by k_is), O.k (f := fun K => hasDictIn K _) (by k_is), ?_⟩
  refine TS_nil ⟨rfl, x, d, rfl, hx, hd, ⟨?_, ?_⟩, ?_⟩
  · rw [upd_ne _ _ hne, upd_ne _ _ hne, upd_self]
  · rw [upd_self]; rfl
  · intro a o e _
    have n1 : a ≠ d := fun q => by rw [q, hd] at e; cases e
    have n2 : a ≠ x := fun q => by rw [q, hx] at e; cases e
    rw [upd_ne _ _ n1, upd_ne _ _ n1, upd_ne _ _ n2, upd_ne _ _ n1]; exact e
end
end Mine
end
section
open PySem PySem.W PyProof.Rows PySem.Calls PySem.Spec
set_option Elab.async false
set_option maxRecDepth 100000
set_option maxHeartbeats 0
namespace Mine
def rowG (rel : Bool) (b : List UInt8) (i lo : Nat) : PR (Nat × List UInt8) := if rel then relRowP b i lo else bindP (seqRowP b i) fun xs i' => .ok ((0, xs), i')
def rowVG (rel : Bool) (x : Nat × List UInt8) : V := if rel then .tup [.int x.1, .bytes x.2.toArray] else .bytes x.2.toArray
def rowsG (rel : Bool) (b : List UInt8) : Nat → Nat → Nat → PR (List (Nat × List UInt8))
  | 0, i, _ => .ok ([], i)
  | k + 1, i, lo => bindP (rowG rel b i lo) fun x i' => bindP (rowsG rel b k i' x.1) fun xs i'' => .ok (x :: xs, i'')
def relRowsOf (rows : List (Nat × List UInt8)) : List (Int × Array UInt8) := rows.map fun x => ((x.1 : Int), x.2.toArray)
def contG (rel : Bool) (rows : List (Nat × List UInt8)) : Cont := if rel then .rel (relOf (relRowsOf rows)) else .seq (rows.map fun x => x.2.toArray)
def isRel (k : Str) : Bool := decide (k = "relative")
def fileP (b : List UInt8) (i : Nat) (ahead : Option Str) : PR (Str × (Str × Cont)) := bindP (kindP b i) fun k i1 => bindP (pathP b i1 ahead) fun p i2 => bindP (countP b i2 4) fun n i3 => bindP (rowsG (isRel k) b n i3 0) fun rs i4 => .ok ((p, (k, contG (isRel k) rs)), i4)
def readP (b : List UInt8) : Nat → Nat → Option Str → Files → Except Nat Files
  | 0, _, _, acc => .ok acc
  | f + 1, i, ahead, acc => if i < b.length then (match fileP b i ahead with
    | .error j => .error j
    | .ok (x, i') => readP b f i' (some x.1) (stB acc x.1 x.2)) else .ok acc
def readAll (b : List UInt8) : Except Nat Files := readP b (b.length + 1) 0 none []
theorem bindP_pure {α : Type} (p : PR (List α)) : (bindP p fun xs j => .ok ([] ++ xs, j)) = p := by
  rcases p with e | ⟨a, i⟩ <;> rfl
theorem bindP_assoc {α β γ : Type} (p : PR α) (f : α → Nat → PR β) (h : β → Nat → PR γ) : bindP (bindP p f) h = bindP p fun a i => bindP (f a i) h := by
  unfold bindP; rcases p with e | ⟨a, i⟩ <;> rfl
theorem bindP_ok {α β : Type} {p : PR α} {f : α → Nat → PR β} {y : β} {j : Nat} (h : bindP p f = .ok (y, j)) : ∃ x i, p = .ok (x, i) ∧ f x i = .ok (y, j) := by
  rcases p with e | ⟨x, i⟩
  · cases h
  · exact ⟨x, i, rfl, h⟩
theorem countP_ok {b : List UInt8} {i w k i' : Nat} (h : countP b i w = .ok (k, i')) : i' = i + w ∧ i + w ≤ b.length ∧ k = num ((b.drop i).take w) := by
  rw [countP_eq] at h
  obtain ⟨xs, j, h1, h2⟩ := bindP_ok h
  obtain ⟨a1, a2, a3, a4⟩ := takeP_ok h1
  cases h2
  exact ⟨a2, a3, by rw [a1]⟩
theorem seqRowP_ok {b : List UInt8} {i i' : Nat} {xs : List UInt8} (h : seqRowP b i = .ok (xs, i')) : i + 2 ≤ i' ∧ i' ≤ b.length ∧ xs.length + i + 2 = i' := by
  obtain ⟨n, i1, h1, h2⟩ := bindP_ok h
  obtain ⟨a1, a2, a3⟩ := countP_ok h1
  obtain ⟨b1, b2, b3, b4⟩ := takeP_ok h2
  omega
theorem relRowP_ok {b : List UInt8} {i lo i' : Nat} {x : Nat × List UInt8} (h : relRowP b i lo = .ok (x, i')) : i + 6 ≤ i' ∧ i' ≤ b.length ∧ lo < x.1 := by
  obtain ⟨k, i1, h1, h2⟩ := bindP_ok h
  obtain ⟨a1, a2, a3⟩ := countP_ok h1
  split at h2
  · cases h2
  · obtain ⟨xs, i2, h3, h4⟩ := bindP_ok h2
    cases h4
    obtain ⟨b1, b2, b3⟩ := seqRowP_ok h3
    refine ⟨by omega, b2, ?_⟩
    show lo < k; omega
theorem rowG_ok {rel : Bool} {b : List UInt8} {i lo i' : Nat} {x : Nat × List UInt8} (h : rowG rel b i lo = .ok (x, i')) : i + 2 ≤ i' ∧ i' ≤ b.length ∧ (rel = true → lo < x.1) ∧ (rel = false → x.1 = 0) := by
  cases rel with
  | true => obtain ⟨a1, a2, a3⟩ := relRowP_ok h; exact ⟨by omega, a2, fun _ => a3, nofun⟩
  | false =>
    obtain ⟨xs, j, h1, h2⟩ := bindP_ok (show bindP (seqRowP b i) _ = _ from h)
    cases h2
    obtain ⟨a1, a2, a3⟩ := seqRowP_ok h1
    exact ⟨a1, a2, nofun, fun _ => rfl⟩
theorem num_lt (xs : List UInt8) : num xs < 256 ^ xs.length := by
  have : ∀ (xs : List UInt8) (a : Nat), xs.foldl (fun a o => a * 256 + o.toNat) a < (a + 1) * 256 ^ xs.length := by
    intro xs
    induction xs with
    | nil => intro a; simp
    | cons x xs ih =>
      intro a
      have h1 := ih (a * 256 + x.toNat)
      have h2 := x.toNat_lt
      rw [List.foldl_cons, List.length_cons, Nat.pow_succ, Nat.mul_comm (256 ^ xs.length) 256, ← Nat.mul_assoc]
      exact Nat.lt_of_lt_of_le h1 (Nat.mul_le_mul_right _ (by omega))
  simpa [num] using this xs 0
theorem Ex.freshs {S : List Addr} {σ σ₁ σ' : Store} (h : Ex [] σ σ₁) (h' : Ex S σ₁ σ') (hc : ∀ c ∈ S, σ c = none) : Ex [] σ σ' := fun a o e q =>
  h' a o (h a o e q) fun z => by rw [hc a z] at e; cases e
theorem kindP_ok {b : List UInt8} {i i' : Nat} {k : Str} (h : kindP b i = .ok (k, i')) : k ∈ kinds ∧ i' = i + 1 ∧ i + 1 ≤ b.length := by
  obtain ⟨xs, j, h1, h2⟩ := bindP_ok h
  obtain ⟨a1, a2, a3, a4⟩ := takeP_ok h1
  split at h2
  · rename_i k' hk
    cases h2
    refine ⟨?_, a2, a3⟩
    unfold kindOf at hk
    split at hk
    · cases hk; decide
    · split at hk
      · cases hk; decide
      · split at hk
        · cases hk; decide
        · cases hk
  · cases h2
theorem pathP_ok {b : List UInt8} {i i' : Nat} {ahead : Option Str} {p : Str} (h : pathP b i ahead = .ok (p, i')) : i + 1 ≤ i' ∧ i' ≤ b.length := by
  obtain ⟨n, i1, h1, h2⟩ := bindP_ok h
  obtain ⟨xs, i2, h3, h4⟩ := bindP_ok h2
  obtain ⟨a1, a2, a3⟩ := countP_ok h1
  obtain ⟨b1, b2, b3, b4⟩ := takeP_ok h3
  split at h4
  · cases h4
  · split at h4
    · cases h4; omega
    · cases h4
section
variable {C : Cx} {σ : Store} {n : Nat} {env : Env} {ε : Loc} {Q : V → Store → Prop} {X : AX → Store → Prop} {QS : Fl → Loc → Store → Prop}
inductive RdQ (σ : Store) (b : List UInt8) (v : V) (σ' : Store) : Prop
  | mk (x D : Addr) (fs : Files) (h1 : v = .obj x) (h2 : readAll b = .ok fs) (h3 : SHx σ' x D fs) (h4 : σ x = none) (h5 : σ D = none) (h6 : Ex [] σ σ')
inductive RdX (σ : Store) (b : List UInt8) (ax : AX) (σ' : Store) : Prop
  | mk (j : Nat) (h1 : readAll b = .error j) (h2 : FltAt j [] σ ax σ')
theorem row_spec (O : L1 C) {r d : Addr} {b : List UInt8} {i lo : Nat} {k : Str} (s : Rd σ r d b i) (hb : b.length ≤ 1000000) :
    CALL C (n + 11) (.ref 223) [.obj r, .str k, .int lo] σ (RQ σ r d b (rowG (isRel k) b i lo) (rowVG (isRel k))) (RXp σ d (rowG (isRel k) b i lo)) := by
  by_cases hk : k = "relative"
  · subst hk
    exact relrow_spec O s hb
  · have : isRel k = false := by simp [isRel, hk]
    rw [this]
    refine (seqrow_spec (n := n) (lo := lo) O s hb hk).mono ?_ fun ax σ' z => RXp.sub Ex.refl z
    rintro v σ' ⟨xs, i', h1, rfl, h3, h4⟩
    exact ⟨(0, xs), i', by show bindP (seqRowP b i) _ = _; rw [h1]; rfl, rfl, h3, h4⟩
theorem rdx {α : Type} {σ σk σ' : Store} {d : Addr} {b : List UInt8} {p : PR α} {ax : AX} (e : Ex [] σ σk) (hd : σ d = none) (h : ∀ j, p = .error j → readAll b = .error j) (z : RXp σk d p ax σ') : RdX σ b ax σ' := by
  obtain ⟨j, h1, h2, h3, h4⟩ := z
  exact ⟨j, h j h1, h2, h3, e.freshs h4 (by simpa using hd)⟩
theorem SHx.rd {σ σ' : Store} {x D r d : Addr} {b : List UInt8} {i : Nat} {fs : Files} {S : List Addr} (h : SHx σ x D fs) (s : Rd σ r d b i) (e : Ex S σ σ') (hS : ∀ c ∈ S, c = d ∨ σ c = none) : SHx σ' x D fs := by
  refine h.ex e fun c hc => ?_
  obtain ⟨_, _, _, _, _, h3, _⟩ := h
  rcases hS c hc with rfl | q
  · exact ⟨fun q => (by have := s.d; rw [q, h3] at this; cases this), .inr (.inr ⟨_, _, s.d⟩)⟩
  · exact ⟨fun z => (by rw [z, h3] at q; cases q), .inl q⟩
inductive RdI (σ : Store) (b : List UInt8) (r d x D : Addr) (k : Nat) (ε : Loc) (σ' : Store) : Prop
  | mk (q1 : ε.lookup ("octets" : Str) = some (.bytes b.toArray)) (q2 : ε.lookup ("reader" : Str) = some (.obj r)) (q3 : ε.lookup ("found" : Str) = some (.obj x)) (i : Nat) (ahead : Option Str) (acc : Files) (q4 : ε.lookup ("ahead" : Str) = some (aheadV ahead)) (q5 : Rd σ' r d b i) (q6 : SHx σ' x D acc) (q7 : Ex [] σ σ') (q8 : b.length - i < k) (q9 : i ≤ b.length) (q10 : acc.length * 2 ≤ i) (q11 : readP b k i ahead acc = readAll b)
inductive RwI (b : List UInt8) (r d x l : Addr) (σ₄ : Store) (kd p : Str) (nn i3 : Nat) (t : Nat) (ε : Loc) (σ' : Store) : Prop
  | mk (w1 : ε.lookup ("octets" : Str) = some (.bytes b.toArray)) (w2 : ε.lookup ("reader" : Str) = some (.obj r)) (w3 : ε.lookup ("found" : Str) = some (.obj x)) (w4 : ε.lookup ("kind" : Str) = some (.str kd)) (w5 : ε.lookup ("path" : Str) = some (.str p)) (w6 : ε.lookup ("rows" : Str) = some (.obj l)) (lo i' : Nat) (rs : List (Nat × List UInt8)) (w7 : ε.lookup ("last" : Str) = some (.int (lo : Nat))) (w8 : σ' l = some (.list (rs.map (rowVG (isRel kd))))) (w9 : Rd σ' r d b i') (w10 : Ex [d, l] σ₄ σ') (w11 : rs.length * 2 ≤ i') (w12 : i3 ≤ i') (w13 : i' ≤ b.length) (w14 : rowsG (isRel kd) b nn i3 0 = (bindP (rowsG (isRel kd) b (nn - t) i' lo) fun xs j => .ok (rs ++ xs, j))) (w15 : isRel kd = true → ∀ y ∈ rs, 1 ≤ y.1)
theorem read_spec (O : L1 C) {b : List UInt8} (hb : b.length ≤ 1900) : CALL C (n + 14) (.ref 237) [.bytes b.toArray] σ (RdQ σ b) (RdX σ b) := by
  refine CALL_def (names := ["octets"]) O.ok (O.k (f := fun K => K.lookup 237) (by k_is)) (O.k (f := fun K => codeIn K _ _) (by k_is)) ?_ (by decide) (by decide) ?_
  · exact all1 fun _ => rfl
  intro L
  refine TS_cons (TS_AssignSwap (names := ["reader", "found", "ahead"]) (EV_Tuple (TL_cons (gc O (TL_cons (EV_local rfl (TL_nil ((reader_spec (n := n + 10) O).mono ?_ fun _ _ z => z))))))))
  rintro v σ₁ ⟨r, d, rfl, hr, hd, s1, e1⟩
  refine TL_cons (gc0 O ((new_spec (n := n + 10) O).mono ?_ fun _ _ z => z))
  rintro v σ₂ ⟨x, D, rfl, hx, hD, sh, e2⟩
  refine TL_cons (EV_none (TL_nil ⟨by simp, _, rfl, rfl, TA_bind (SN_local (TA_bind (SN_local (TA_bind (SN_local ?_)))))⟩))
  have s2 : Rd σ₂ r d b 0 := s1.ex e2
  have hx0 : σ x = none := e1.gone hx
  have hD0 : σ D = none := e1.gone hD
  show TS _ _ _ _ (execs (_ :: _) _) _ _ _
  refine TS_cons (TS_While (RdI σ b r d x D) rfl (fun k ε σ' ⟨q1, q2, q3, i, ahead, acc, q4, q5, q6, q7, q8, q9, q10, q11⟩ => ?_) (b.length + 1) ⟨rfl, rfl, rfl, 0, none, [], rfl, s2, sh, e1.trans e2, by omega, by omega, by simp, rfl⟩)
  refine TT_Compare (EV_Attr (EV_local q2 (rd_at O q5 (bc O (TL_cons (EV_local q1 (TL_nil (len_b (by simp; omega) (lt_ii ⟨_, rfl, ?_⟩)))))))))
  have hsz : (b.toArray.size : Int) = b.length := by simp
  rw [hsz]
  obtain ⟨k, rfl⟩ : ∃ k', k = k' + 1 := ⟨k - 1, by omega⟩
  by_cases hlt : i < b.length
  · rw [if_pos (by simpa using hlt)]
    have hfail : ∀ j, fileP b i ahead = .error j → readAll b = .error j := fun j h => by rw [← q11]; unfold readP; rw [if_pos hlt, h]
    have hd0 : σ d = none := hd
    refine TS_cons (TS_Assign (EV_Method (EV_local q2 (rd_meth O q5 (CW_nil (Kp_K O.ok (O.k (f := fun K => keepIn K _) (by k_is))) (OPL_call ((kind_spec (n := n + 4) O q5 (by omega)).mono ?_ fun ax σ₃ z => rdx q7 hd0 (fun j h => hfail j (by unfold fileP; rw [h]; rfl)) z)))))))
    rintro v σ₃ ⟨kd, i1, hk, rfl, s3, e3⟩
    have sh3 := q6.rd q5 e3 (by simp)
    have f3 : Ex [] σ σ₃ := q7.freshs e3 (by simpa using hd0)
    refine SN_local ?_
    show TS _ _ _ _ (execs (_ :: _) _) _ _ _
    refine TS_cons (TS_Assign (EV_Method (EV_local q2 (rd_meth O s3 (CW_cons (TL_cons (EV_local q4 (TL_nil ⟨Kp_K O.ok (O.k (f := fun K => keepIn K _) (by k_is)), OPL_call ((rpath_spec (n := n + 2) O s3 (by omega)).mono ?_ fun ax σ₄ z => rdx f3 hd0 (fun j h => hfail j (by unfold fileP; rw [hk]; show bindP (pathP b i1 ahead) _ = _; rw [h]; rfl)) z)⟩))))))))
    rintro v σ₄ ⟨p, i2, hp, rfl, s4, e4⟩
    have sh4 := sh3.rd s3 e4 (by simp)
    have f4 : Ex [] σ σ₄ := f3.freshs e4 (by simpa using hd0)
    refine SN_local ?_
    show TS _ _ _ _ (execs (_ :: _) _) _ _ _
    refine TS_cons (TS_AssignSwap (names := ["rows", "last"]) (EV_Tuple (TL_cons (EV_List (TL_nil ⟨by simp, fun l hl => ?_⟩)))))
    refine TL_cons (EV_int (TL_nil ⟨by simp, _, rfl, rfl, TA_bind (SN_local (TA_bind (SN_local ?_)))⟩))
    show TS _ _ _ _ (execs (_ :: _) _) _ _ _
    have hl0 : σ l = none := f4.gone hl
    have hlr : l ≠ r := fun q => by rw [q, s4.r] at hl; cases hl
    have hld : l ≠ d := fun q => by rw [q, s4.d] at hl; cases hl
    have s5 : Rd (upd σ₄ l (.list [])) r d b i2 := ⟨by rw [upd_ne _ _ (Ne.symm hlr)]; exact s4.r, by rw [upd_ne _ _ (Ne.symm hld)]; exact s4.d⟩
    have e5 : Ex [d, l] σ₄ (upd σ₄ l (.list [])) := Ex.set (by simp)
    have f5 : Ex [] σ (upd σ₄ l (.list [])) := f4.trans (Ex.new hl)
    refine TS_cons (TS_For_it rfl (IT_range (bl O ⟨rfl, rfl⟩) (TL_cons (EV_Method (EV_local q2 (rd_meth O s5 (CW_cons (TL_cons (EV_int (TL_nil ⟨Kp_K O.ok (O.k (f := fun K => keepIn K _) (by k_is)), OPL_call ((count_spec (n := n + 4) (w := 4) O s5 (by omega)).mono ?_ fun ax σ₆ z => rdx f5 hd0 (fun j h => hfail j (by unfold fileP; rw [hk]; show bindP (pathP b i1 ahead) _ = _; rw [hp]; show bindP (countP b i2 4) _ = _; rw [h]; rfl)) z)⟩))))))))))
    rintro v σ₆ ⟨nn, i3, hn, rfl, s6, e6⟩
    obtain ⟨hn1, hn2, hn3⟩ := countP_ok hn
    have hnlt : nn < 4294967296 := by
      have := num_lt ((b.drop i2).take 4)
      rw [← hn3, List.length_take, List.length_drop, show min 4 (b.length - i2) = 4 from by omega] at this
      exact this
    have e46 : Ex [d, l] σ₄ σ₆ := e5.trans (e6.mono (by simp))
    refine TL_nil ⟨0, _, 1, nn, .inl ⟨rfl, rfl, rfl⟩, small_nat (by omega), size_nat _, ?_⟩
    have hrows : ∀ j, rowsG (isRel kd) b nn i3 0 = .error j → readAll b = .error j := fun j h => hfail j (by unfold fileP; rw [hk]; show bindP (pathP b i1 ahead) _ = _; rw [hp]; show bindP (countP b i2 4) _ = _; rw [hn]; show bindP (rowsG (isRel kd) b nn i3 0) _ = _; rw [h]; rfl)
    rw [upto_map]
    have hl6 : σ₆ l = some (.list []) := e6 _ _ (upd_self _ _ _) (by simpa using hld)
    refine ForW_each (RwI b r d x l σ₄ kd p nn i3) _ _ (fun t t' ht ε σ' ⟨w1, w2, w3, w4, w5, w6, lo, i', rs, w7, w8, w9, w10, w11, w12, w13, w14, w15⟩ => ?_) (fun ε σ' ⟨w1, w2, w3, w4, w5, w6, lo, i', rs, w7, w8, w9, w10, w11, w12, w13, w14, w15⟩ => ?_) ⟨q1, q2, q3, rfl, rfl, rfl, 0, i3, [], rfl, hl6, s6, e46, by simp, by omega, by omega, by rw [Nat.sub_zero]; exact (bindP_pure _).symm, by simp⟩
    · have htn : t < nn := by simpa using (List.getElem?_eq_some_iff.mp ht).1
      obtain ⟨m, hm⟩ : ∃ m, nn - t = m + 1 := ⟨nn - t - 1, by omega⟩
      have hm' : nn - (t + 1) = m := by omega
      have g : Ex [] σ σ' := f4.freshs w10 (by simp [hd0, hl0])
      rw [hm] at w14
      have w14' : rowsG (isRel kd) b nn i3 0 = bindP (rowG (isRel kd) b i' lo) fun x i'' => bindP (rowsG (isRel kd) b m i'' x.1) fun xs j => .ok (rs ++ (x :: xs), j) := by
        rw [w14]
        show bindP (bindP (rowG (isRel kd) b i' lo) _) _ = _
        rw [bindP_assoc]
        congr 1
        funext x i''
        rw [bindP_assoc]
        congr 1
      refine TA_Name (SN_local (TS_cons (TS_Assign (EV_Method (EV_local w2 (rd_meth O w9 (CW_cons (TL_cons (EV_local w4 (TL_cons (EV_local w7 (TL_nil ⟨Kp_K O.ok (O.k (f := fun K => keepIn K _) (by k_is)), OPL_call ((row_spec (n := n + 2) O w9 (by omega)).mono ?_ fun ax σ₇ z => rdx g hd0 (fun j h => hrows j (by rw [w14', h]; rfl)) z)⟩))))))))))))
      rintro v σ₇ ⟨x', i'', hx', rfl, s7, e7⟩
      obtain ⟨y1, y2, y3, y4⟩ := rowG_ok hx'
      refine SN_local ?_
      show TS _ _ _ _ (execs (_ :: _) _) _ _ _
      refine TS_cons (TS_Assign (TV.mono (Q := fun v σ₈ => v = .int (x'.1 : Nat) ∧ σ₈ = σ₇) ?_ (fun v σ₈ z => ?_) fun _ _ z => z))
      · refine EV_IfExp (TT_Compare (EV_local w4 (EV_str (eq_ss ⟨_, rfl, ?_⟩))))
        show (if isRel kd = true then _ else _)
        cases hrel : isRel kd with
        | true =>
          rw [if_pos rfl]
          exact EV_Sub (EV_local rfl (EV_int (sub_tup (j := 0) rfl rfl ⟨rfl, rfl⟩)))
        | false =>
          rw [if_neg (by simp)]
          exact EV_int ⟨by rw [y4 hrel]; rfl, rfl⟩
      obtain ⟨rfl, rfl⟩ := z
      refine SN_local ?_
      show TS _ _ _ _ (execs (_ :: _) _) _ _ _
      have l7 : σ₈ l = some (.list (rs.map (rowVG (isRel kd)))) := e7 _ _ w8 (by simpa using hld)
      refine TS_cons (TS_Expr (EV_Method (EV_local w6 (meth_list slot_list_append type_list_append l7 (CW_cons (TL_cons (EV_local rfl (TL_nil ⟨Kp_builtin, append_l l7 (by simp; omega) ?_⟩))))))))
      have e9 : Ex [d, l] σ₄ (upd σ₈ l (.list (rs.map (rowVG (isRel kd)) ++ [rowVG (isRel kd) x']))) := (w10.trans (e7.mono (by simp))).trans (Ex.set (by simp))
      refine TS_nil ⟨trivial, w1, w2, w3, w4, w5, w6, x'.1, i'', rs ++ [x'], rfl, ?_, ⟨?_, ?_⟩, e9, ?_, by omega, y2, ?_, ?_⟩
      · rw [upd_self]; simp
      · rw [upd_ne _ _ (Ne.symm hlr)]; exact s7.r
      · rw [upd_ne _ _ (Ne.symm hld)]; exact s7.d
      · simp; omega
      · rw [hm', w14', hx']
        show bindP (rowsG (isRel kd) b m i'' x'.1) _ = _
        congr 1
        funext xs j
        simp
      · intro hrel y hy
        rcases List.mem_append.mp hy with hy | hy
        · exact w15 hrel y hy
        · simp at hy; subst hy; have := y3 hrel; omega
    · have hlen : (List.range nn).length = nn := by simp
      rw [hlen, Nat.sub_self] at w14
      have hfile : fileP b i ahead = .ok ((p, (kd, contG (isRel kd) rs)), i') := by
        unfold fileP; rw [hk]; show bindP (pathP b i1 ahead) _ = _; rw [hp]; show bindP (countP b i2 4) _ = _; rw [hn]; show bindP (rowsG (isRel kd) b nn i3 0) _ = _; rw [w14]
        show Except.ok _ = _
        simp
      obtain ⟨hk1, hk2, hk3⟩ := kindP_ok hk
      have sh' : SHx σ' x D acc := sh4.rd s4 w10 (by intro c hc; simp at hc; rcases hc with rfl | rfl; exact .inl rfl; exact .inr hl)
      have f' : Ex [] σ σ' := f4.freshs w10 (by simp [hd0, hl0])
      have hnext : readP b k i' (some p) (stB acc p (kd, contG (isRel kd) rs)) = readAll b := by
        rw [← q11]; show _ = readP b (k + 1) i ahead acc; conv => rhs; unfold readP
        rw [if_pos hlt, hfile]
      have hal := stB_length acc p (kd, contG (isRel kd) rs)
      have hi2 : i2 ≤ i3 := by omega
      obtain ⟨_, hp2⟩ := pathP_ok hp
      have fin : ∀ (v : V) σ₉, SHx σ₉ x D (stB acc p (kd, contG (isRel kd) rs)) → Ex [D] σ' σ₉ → ∃ σ₁₀, σ₁₀ = σ₉ ∧ Rd σ₉ r d b i' ∧ Ex [] σ σ₉ := by
        intro v σ₉ z1 z2
        obtain ⟨_, _, _, _, _, hD3, _⟩ := sh'
        exact ⟨_, rfl, w9.ex z2 (by simp; intro q; have := w9.r; rw [q, hD3] at this; cases this) (by simp; intro q; have := w9.d; rw [q, hD3] at this; cases this), f'.freshs z2 (by simpa using hD0)⟩
      obtain ⟨d', _, _, hx1, hx2, _, _⟩ := id sh'
      show TS _ _ _ _ (execs (_ :: _) _) _ _ _
      refine TS_cons (TS_Expr (EV_Method (EV_local w3 (sh_meth (f := 110) O hx1 hx2 (CW_cons (TL_cons (EV_local w5 (TL_cons (EV_local w4 (TL_cons (EV_local w6 (TL_nil ⟨Kp_K O.ok (O.k (f := fun K => keepIn K _) (by k_is)), OPL_call (CALL.mono (Q := fun v σ₉ => SHx σ₉ x D (stB acc p (kd, contG (isRel kd) rs)) ∧ Ex [D] σ' σ₉) (X := fun _ _ => False) ?_ (fun v σ₉ z => ?_) fun _ _ z => z.elim)⟩))))))))))))
      · by_cases hrel : kd = "relative"
        · have hr : isRel kd = true := by simp [isRel, hrel]
          rw [hr] at w8 w15 ⊢
          subst hrel
          refine (lay_rel_spec (n := n + 5) (P := fun _ => True) (rows := relRowsOf rs) O sh' (by omega) (.inl ⟨l, rfl, ?_⟩) (by simp [relRowsOf]; omega) trivial).mono (fun v σ₉ z => ⟨z.2.2.1, z.2.2.2⟩) fun ax σ₉ z => absurd ?_ z.1
          · rw [w8]; unfold relRowsOf; rw [List.map_map]; rfl
          · intro y hy
            unfold relRowsOf at hy
            obtain ⟨z, hz, rfl⟩ := List.mem_map.mp hy
            have := w15 rfl z hz
            show (1 : Int) ≤ (z.1 : Int); omega
        · have hr : isRel kd = false := by simp [isRel, hrel]
          rw [hr] at w8 ⊢
          refine (lay_other_spec (n := n + 5) (P := fun _ => True) (k := kd) (rows := rs.map fun (x : Nat × List UInt8) => x.2.toArray) O sh' (by omega) ?_ (.inl ⟨l, rfl, ?_⟩) (by simp; omega) hrel trivial).mono (fun v σ₉ z => ⟨z.2.2.1, z.2.2.2⟩) fun ax σ₉ z => absurd hk1 z.1
          · have : ∀ k ∈ kinds, k.length ≤ 1000 := by decide
            exact this _ hk1
          · rw [w8, List.map_map]; rfl
      obtain ⟨z1, z2⟩ := z
      obtain ⟨_, _, z3, z4⟩ := fin v σ₉ z1 z2
      show TS _ _ _ _ (execs (_ :: _) _) _ _ _
      refine TS_cons (TS_Assign (EV_local w5 (SN_local (TS_nil ⟨k, by omega, w1, w2, w3, i', some p, _, rfl, z3, z1, z4, by omega, w13, by omega, hnext⟩))))
  · rw [if_neg (by simpa using hlt)]
    show TS _ _ _ _ (execs (_ :: _) _) _ _ _
    refine TS_cons (TS_Return (EV_local q3 ⟨x, D, acc, rfl, ?_, q6, hx0, hD0, q7⟩))
    rw [← q11]; unfold readP; rw [if_neg hlt]
end
end Mine
end
section
open PySem PySem.W PyProof.Rows PySem.Calls PySem.Spec
set_option Elab.async false
set_option maxRecDepth 100000
set_option maxHeartbeats 0
namespace Mine
theorem pow_cast (a k : Nat) : (a : Int) ^ k = ((a ^ k : Nat) : Int) := (Int.natCast_pow a k).symm
structure Taker (C : Cx) (f Lp : Addr) (Dl : List Addr) (T : Nat → Store → Prop) : Prop where
  call : ∀ {k m n : Nat} {σ : Store} {Q : V → Store → Prop} {X : AX → Store → Prop}, T k σ → 0 < m → k < 450 → (∀ (j : Nat) σ', j < m → T (k + 1) σ' → Ex [Lp] σ σ' → Q (.int j) σ') → CALL C (n + 6) (.ref f) [.int m] σ Q X
  keep : ∀ {k : Nat} {σ σ' : Store}, T k σ → (∀ a o, a ∈ Dl → σ a = some o → σ' a = some o) → T k σ'
  kp : ∀ {k : Nat} {σ : Store}, T k σ → Kp C σ (.ref f)
  dep : ∀ {k : Nat} {σ : Store}, T k σ → ∀ a ∈ Dl, σ a ≠ none
  lp : Lp ∈ Dl
  at_ : ∀ {k : Nat} {σ : Store}, T k σ → ∃ i : Int, σ Lp = some (.list [.int i])
theorem Taker.ex {C : Cx} {f Lp : Addr} {Dl : List Addr} {T : Nat → Store → Prop} (tk : Taker C f Lp Dl T) {k : Nat} {σ σ' : Store} (t : T k σ) (h : Ex [] σ σ') : T k σ' := tk.keep t fun a o _ e => h a o e (by simp)
theorem Taker.exs {C : Cx} {f Lp : Addr} {Dl : List Addr} {T : Nat → Store → Prop} (tk : Taker C f Lp Dl T) {k : Nat} {σ σ' : Store} {S : List Addr} (t : T k σ) (h : Ex S σ σ') (hS : ∀ a ∈ S, a ∉ Dl) : T k σ' := tk.keep t fun a o ha e => h a o e fun q => hS a q ha
theorem Taker.out {C : Cx} {f Lp : Addr} {Dl : List Addr} {T : Nat → Store → Prop} (tk : Taker C f Lp Dl T) {k : Nat} {σ : Store} (t : T k σ) {a : Addr} (h : σ a = none) : a ∉ Dl := fun q => tk.dep t a q h
theorem Taker.has {C : Cx} {f Lp : Addr} {Dl : List Addr} {T : Nat → Store → Prop} (tk : Taker C f Lp Dl T) {k : Nat} {σ : Store} (t : T k σ) : σ Lp ≠ none := tk.dep t Lp tk.lp
section
variable {C : Cx} {σ : Store} {n : Nat} {env : Env} {ε : Loc} {Q : V → Store → Prop} {X : AX → Store → Prop} {QS : Fl → Loc → Store → Prop}
inductive TkQ (C : Cx) (P : Addr) (σ : Store) (r : V) (σ' : Store) : Prop
  | mk (f Lp : Addr) (Dl : List Addr) (T : Nat → Store → Prop) (h1 : r = .obj f) (h2 : Taker C f Lp Dl T) (h3 : T 0 σ') (h4 : ∀ a ∈ Dl, σ a = none) (h5 : ∃ ps, σ' P = some (.raw (tabObj ps))) (h6 : Ex [P] σ σ')
theorem taker_spec (O : L1 C) {sc P : Addr} {zs : List Int} {ps : Array Value} (hs : BaseInts C sc zs) (hz : zs.length ≤ 1000) (hC : CodeHd C.H 251 P) (hP : σ P = some (.raw (tabObj #[]))) :
    CALL C (n + 6) (.ref 252) [.obj sc] σ (TkQ C P σ) X := by
  refine CALL_cells (names := ["script"]) O.ok (O.k (f := fun K => K.lookup 252) (by k_is)) (O.k (f := fun K => codeIn K _ _) (by k_is)) ?_ (by decide) (by walk_at "hk") (by decide) (by decide) ?_
  · exact all1 fun _ => rfl
  intro L hL
  show TS C (n + 5) _ [("script", .obj sc)] _ (upd (upd σ (L + 1) (.cell none)) (L + 2) (.cell none)) _ _
  have a1 : σ (L + 1) = none := hL _ (Nat.le_add_right L 1)
  have a2 : σ (L + 2) = none := hL _ (Nat.le_add_right L 2)
  have a12 : L + 2 ≠ L + 1 := Nat.succ_ne_self _
  have hs0 : Ex [] σ (upd (upd σ (L + 1) (.cell none)) (L + 2) (.cell none)) := (Ex.new a1).trans (Ex.new (by rw [upd_ne _ _ a12]; exact a2))
  generalize hσ0 : upd (upd σ (L + 1) (.cell none)) (L + 2) (.cell none) = σ0 at hs0 ⊢
  have c1 : σ0 (L + 1) = some (.cell none) := by rw [← hσ0, upd_ne _ _ (Ne.symm a12), upd_self]
  have c2 : σ0 (L + 2) = some (.cell none) := by rw [← hσ0, upd_self]
  refine TS_cons (TS_Assign (EV_Cut (EV_local rfl (EV_int ⟨_, rfl, cut_base hs (by omega) fun Lc hLc => ?_⟩))))
  have n1 : L + 1 ≠ Lc := fun q => by rw [← q, c1] at hLc; cases hLc
  have n2 : L + 2 ≠ Lc := fun q => by rw [← q, c2] at hLc; cases hLc
  have hcut : cut (zs.map V.int) none (some (40 : Int)) = (zs.take 40).map V.int := by
    unfold cut
    have hcl : clipAt (zs.map V.int).length 40 = min 40 zs.length := by
      have := clipAt_cast (zs.map V.int).length 40
      rw [if_neg (by decide)] at this
      simp only [List.length_map] at this ⊢
      omega
    simp only [Option.elim_some, Option.elim_none, hcl, List.drop_zero, Nat.sub_zero, List.map_take]
    rw [← List.length_map (f := V.int)]
    exact List.take_eq_take_min.symm
  refine SN_cell (o := none) rfl (by rw [upd_ne _ _ n1]; exact c1) ?_
  rw [hcut]
  show TS _ _ _ _ (execs (_ :: _) _) _ _ _
  have h1 : Ex [L + 1] σ0 (upd (upd σ0 Lc (.list ((zs.take 40).map V.int))) (L + 1) (.cell (some (.obj Lc)))) := (Ex.new hLc).trans (Ex.set (by simp))
  refine TS_cons (TS.mono (Q := fun fl ε' σ' => fl = .next ∧ ε' = ([("script", .obj sc)] : Loc) ∧ ∃ Lc zs', σ' (L + 1) = some (.cell (some (.obj Lc))) ∧ σ' Lc = some (.list (zs'.map V.int)) ∧ zs' ≠ [] ∧ zs'.length ≤ 40 ∧ σ0 Lc = none ∧ Ex [L + 1] σ0 σ') ?_ (fun fl ε' σ' z => ?_) fun _ _ z => z)
  · refine TS_If (TT_Compare (EV_cell rfl (upd_self _ _ _) (EV_List (TL_nil ⟨by simp, fun l' hl' => ?_⟩))))
    have n3 : l' ≠ L + 1 := fun q => by rw [q, upd_self] at hl'; cases hl'
    have n4 : l' ≠ Lc := fun q => by rw [q, upd_ne _ _ (Ne.symm n1), upd_self] at hl'; cases hl'
    refine eq_l0 (l := (zs.take 40).map V.int) (by rw [upd_ne _ _ (Ne.symm n4), upd_ne _ _ (Ne.symm n1), upd_self]) (upd_self _ _ _) ⟨_, rfl, ?_⟩
    by_cases he : zs.take 40 = []
    · rw [he, if_pos (by rfl)]
      generalize hσ1 : upd (upd (upd σ0 Lc (.list (List.map V.int []))) (L + 1) (.cell (some (.obj Lc)))) l' (.list []) = σ1
      have m0 : σ1 (L + 1) = some (.cell (some (.obj Lc))) := by rw [← hσ1, upd_ne _ _ (Ne.symm n3), upd_self]
      have mE : Ex [L + 1] σ0 σ1 := by
        rw [← hσ1]
        refine ((Ex.new hLc).trans (Ex.set (by simp))).trans (Ex.new ?_)
        rw [he] at hl'; exact hl'
      refine TS_cons (TS_Assign (EV_List (TL_cons (EV_int (TL_nil ⟨by simp, fun l2 hl2 => ?_⟩)))))
      have n5 : L + 1 ≠ l2 := fun q => by rw [← q, m0] at hl2; cases hl2
      refine SN_cell (o := some (.obj Lc)) rfl (by rw [upd_ne _ _ n5]; exact m0) (TS_nil ⟨rfl, rfl, l2, [1], upd_self _ _ _, ?_, by simp, by simp, mE.gone hl2 (by simpa using Ne.symm n5), (mE.trans (Ex.new hl2)).trans (Ex.set (by simp))⟩)
      rw [upd_ne _ _ (Ne.symm n5), upd_self]; rfl
    · rw [if_neg (by simpa using he)]
      refine TS_nil ⟨rfl, rfl, Lc, zs.take 40, ?_, ?_, he, by rw [List.length_take]; omega, hLc, h1.trans (Ex.new hl')⟩
      · rw [upd_ne _ _ (Ne.symm n3), upd_self]
      · rw [upd_ne _ _ (Ne.symm n4), upd_ne _ _ (Ne.symm n1), upd_self]
  obtain ⟨rfl, rfl, Lc, zs', k1, k2, k3, k4, k5, k6⟩ := z
  have kP : σ' (L + 2) = some (.cell none) := k6.get c2 (by simp)
  show TS _ _ _ _ (execs (_ :: _) _) _ _ _
  refine TS_cons (TS_Assign (EV_List (TL_cons (EV_int (TL_nil ⟨by simp, fun Lp hLp => ?_⟩)))))
  have p1 : L + 1 ≠ Lp := fun q => by rw [← q, k1] at hLp; cases hLp
  have p2 : L + 2 ≠ Lp := fun q => by rw [← q, kP] at hLp; cases hLp
  have p3 : Lc ≠ Lp := fun q => by rw [← q, k2] at hLp; cases hLp
  refine SN_cell (o := none) rfl (by rw [upd_ne _ _ p2]; exact kP) ?_
  show TS _ _ _ _ (execs (_ :: _) _) _ _ _
  generalize hσ2 : upd (upd σ' Lp (.list [.int 0])) (L + 2) (.cell (some (.obj Lp))) = σ2
  have p5 : Lc ≠ L + 2 := fun q => by rw [q, kP] at k2; cases k2
  have r1 : σ2 (L + 1) = some (.cell (some (.obj Lc))) := by rw [← hσ2, upd_ne _ _ (Ne.symm a12), upd_ne _ _ p1]; exact k1
  have r2 : σ2 (L + 2) = some (.cell (some (.obj Lp))) := by rw [← hσ2, upd_self]
  have r3 : σ2 Lc = some (.list (zs'.map V.int)) := by rw [← hσ2, upd_ne _ _ p5, upd_ne _ _ p3]; exact k2
  have r4 : σ2 Lp = some (.list [.int 0]) := by rw [← hσ2, upd_ne _ _ (Ne.symm p2), upd_self]
  have rE : Ex [] σ σ2 := by
    have : Ex [L + 1, L + 2] σ0 σ2 := by rw [← hσ2]; exact ((k6.mono (by simp)).trans (Ex.new hLp)).trans (Ex.set (by simp))
    exact hs0.freshs this (by simp [a1, a2])
  have rP := rE.get hP
  refine TS_cons (TS_Def O.ok rfl hC rP (by simp [TriplesOk]) (by rfl) rfl rfl rfl rfl rfl fun f c' oc ws t doc pm ctv d1 d2 d3 d4 d5 => ?_)
  refine SN_local ?_
  show TS _ _ _ _ (execs (_ :: _) _) _ _ _
  have u1 : L + 1 ≠ P := fun q => by rw [q, rP] at r1; cases r1
  have u2 : L + 2 ≠ P := fun q => by rw [q, rP] at r2; cases r2
  have u3 : Lc ≠ P := fun q => by rw [q, rP] at r3; cases r3
  have u4 : Lp ≠ P := fun q => by rw [q, rP] at r4; cases r4
  have ne : ∀ {a o}, σ2 a = some o → a ≠ c' ∧ a ≠ f := fun e => ⟨fun q => (by rw [q, d1] at e; cases e), fun q => (by rw [q, d2] at e; cases e)⟩
  have keep : ∀ {a o} (x y z : AO), σ2 a = some o → a ≠ P → upd (upd (upd σ2 P x) c' y) f z a = some o := fun {a o} x y z e hp => by
    rw [upd_ne _ _ (ne e).2, upd_ne _ _ (ne e).1, upd_ne _ _ hp]; exact e
  refine TS_cons (TS_Return (EV_local rfl ?_))
  refine ⟨f, Lp, [f, c', L + 1, L + 2, Lc, Lp], fun k σ₁ => σ₁ f = some (.raw (fnMade _ _ _ _ _ _ doc pm c' ctv)) ∧ σ₁ c' = some (.raw oc) ∧ σ₁ (L + 1) = some (.cell (some (.obj Lc))) ∧ σ₁ (L + 2) = some (.cell (some (.obj Lp))) ∧ σ₁ Lc = some (.list (zs'.map V.int)) ∧ σ₁ Lp = some (.list [.int (k : Nat)]), rfl, ⟨?_, ?_, ?_, ?_, by simp, fun ⟨_, _, _, _, _, t6⟩ => ⟨_, t6⟩⟩, ⟨upd_self _ _ _, ?_, keep _ _ _ r1 u1, keep _ _ _ r2 u2, keep _ _ _ r3 u3, keep _ _ _ r4 u4⟩, ?_, ?_, ?_⟩
  · intro k m n' σ₁ Q X ⟨t1, t2, t3, t4, t5, t6⟩ hm hk hQ
    refine CALL_clos (names := ["limit"]) O.ok t1 t2 d4 d5 (fun vs hv => by
      match vs, hv with
      | [v], _ => rfl) (by decide) (by decide) fun L' hL' => ?_
    have hzl : 0 < zs'.length := List.length_pos_iff.mpr k3
    refine TS_cons (TS_Assign (EV_Sub (EV_free rfl t4 (EV_int (sub_list t6 (by decide) rfl (SN_local ?_))))))
    show TS _ _ _ _ (execs (_ :: _) _) _ _ _
    refine TS_cons (TS_SetSub (EV_BinOp (EV_local rfl (EV_int (add_ii (EV_free rfl t4 (EV_int (set_listI t6 (by decide) (by decide) (by simp) ?_))))))))
    have hset : ([V.int (k : Nat)].set (0 : Int).toNat (.int ((k : Int) + 1))) = [.int ((k + 1 : Nat) : Int)] := rfl
    rw [hset]
    have q1 : Lp ≠ Lc := Ne.symm p3
    have qs : Ex [Lp] σ₁ (upd σ₁ Lp (.list [.int ((k + 1 : Nat) : Int)])) := Ex.set (by simp)
    generalize hσ3 : upd σ₁ Lp (.list [.int ((k + 1 : Nat) : Int)]) = σ3 at qs
    have v4 : σ3 (L + 1) = some (.cell (some (.obj Lc))) := qs _ _ t3 (by simpa using p1)
    have v5 : σ3 Lc = some (.list (zs'.map V.int)) := qs _ _ t5 (by simpa using p3)
    have hll : ((zs'.map V.int).length : Int) = (zs'.length : Nat) := by simp
    show TS _ _ _ _ (execs (_ :: _) _) _ _ _
    refine TS_cons (TS_Assign (EV_BinOp (EV_local rfl (bc O (TL_cons (EV_free rfl v4 (TL_nil (len_list' v5 (by simp; omega) (div_ii ?_ ?_ (SN_local ?_))))))))))
    · rw [hll]; omega
    · rw [hll, Int.natAbs_natCast]
      exact Nat.lt_of_le_of_lt (Nat.log2_le_self _) (by omega)
    rw [hll]
    have hlv : (k : Int).fdiv (zs'.length : Nat) = ((k / zs'.length : Nat) : Int) := by
      rw [Int.fdiv_eq_ediv_of_nonneg _ (by omega)]; rfl
    rw [hlv]
    have hlk : k / zs'.length ≤ k := Nat.div_le_self _ _
    generalize k / zs'.length = lv at hlk
    have hkm : (k : Int).fmod (zs'.length : Nat) = ((k % zs'.length : Nat) : Int) := by
      rw [Int.fmod_eq_emod_of_nonneg _ (by omega)]; rfl
    have hkl : k % zs'.length < zs'.length := Nat.mod_lt _ hzl
    show TS _ _ _ _ (execs (_ :: _) _) _ _ _
    refine TS_cons (TS_Return (EV_BinOp (EV_BinOp (EV_BinOp (EV_Sub (EV_free rfl v4 (EV_BinOp (EV_local rfl (bc O (TL_cons (EV_free rfl v4 (TL_nil (len_list' v5 (by simp; omega) (mod_ii (by rw [hll]; omega) ?_))))))))))))))
    rw [hll, hkm]
    refine sub_list (x := .int (zs'[k % zs'.length])) v5 (by omega) (by rw [Int.toNat_natCast, List.getElem?_map, List.getElem?_eq_getElem hkl]; rfl) ?_ (by omega)
    generalize zs'[k % zs'.length] = z
    refine EV_BinOp (EV_int (EV_local rfl (pow_ii (by omega) (by rw [show Builtin.Int.intBits 720720 = 20 from by decide +kernel]; omega) ?_)))
    rw [Int.toNat_natCast]
    have hpz : (720720 : Int) ^ lv ≠ 0 := by
      have : (720720 : Int) ^ lv = ((720720 ^ lv : Nat) : Int) := pow_cast 720720 lv
      rw [this]
      have : 0 < 720720 ^ lv := Nat.pow_pos (by decide)
      omega
    have hplog : ((720720 : Int) ^ lv).natAbs.log2 < 9000 := by
      have e1 : (720720 : Int) ^ lv = ((720720 ^ lv : Nat) : Int) := pow_cast 720720 lv
      rw [e1, Int.natAbs_natCast]
      have e2 : 720720 ^ lv < 2 ^ 9000 := by
        have h1 : 720720 ^ lv ≤ (2 ^ 20) ^ lv := Nat.pow_le_pow_left (by decide) lv
        rw [← Nat.pow_mul] at h1
        exact Nat.lt_of_le_of_lt h1 (Nat.pow_lt_pow_right (by decide) (by omega))
      exact (Nat.log2_lt (by have : 0 < 720720 ^ lv := Nat.pow_pos (by decide); omega)).mpr e2
    refine div_ii hpz hplog (EV_BinOp (EV_local rfl (EV_BinOp (EV_BinOp (EV_int (EV_local rfl (mul_ii (IntMulOk.of_left (by decide +kernel)) (EV_int (add_ii ?_)))))))))
    refine mul_ii (IntMulOk.of_left (intBits_le_64 (by omega) (by omega))) (add_ii (EV_local rfl (mod_ii (by omega) ?_)))
    generalize Int.fdiv z ((720720 : Int) ^ lv) + (lv : Int) * (7 * (k : Int) + 3) = w
    have hw : w.fmod (m : Int) = ((w.fmod (m : Int)).toNat : Int) := by
      rw [Int.toNat_of_nonneg]
      rw [Int.fmod_eq_emod_of_nonneg _ (by omega)]
      exact Int.emod_nonneg _ (by omega)
    rw [hw]
    refine hQ _ _ ?_ ?_ qs
    · have : w.fmod (m : Int) < m := by
        rw [Int.fmod_eq_emod_of_nonneg _ (by omega)]
        exact Int.emod_lt_of_pos _ (by omega)
      omega
    · have nf : f ≠ Lp := fun q => by rw [q, t6] at t1; cases t1
      have nc : c' ≠ Lp := fun q => by
        rw [q, t6] at t2; cases t2
      exact ⟨qs _ _ t1 (by simpa using nf), qs _ _ t2 (by simpa using nc), v4, qs _ _ t4 (by simpa using p2), v5, by rw [← hσ3, upd_self]⟩
  · intro k σ₁ σ₂ ⟨t1, t2, t3, t4, t5, t6⟩ e
    exact ⟨e _ _ (by simp) t1, e _ _ (by simp) t2, e _ _ (by simp) t3, e _ _ (by simp) t4, e _ _ (by simp) t5, e _ _ (by simp) t6⟩
  · intro k σ₁ ⟨t1, _⟩
    exact Kp_fn t1
  · intro k σ₁ ⟨t1, t2, t3, t4, t5, t6⟩ a ha q
    simp only [List.mem_cons, List.not_mem_nil, or_false] at ha
    rcases ha with rfl | rfl | rfl | rfl | rfl | rfl
    · rw [t1] at q; cases q
    · rw [t2] at q; cases q
    · rw [t3] at q; cases q
    · rw [t4] at q; cases q
    · rw [t5] at q; cases q
    · rw [t6] at q; cases q
  · rw [upd_ne _ _ d3, upd_self]
  · intro a ha
    simp only [List.mem_cons, List.not_mem_nil, or_false] at ha
    have eP : Ex [L + 1, L + 2] σ0 σ2 := by rw [← hσ2]; exact ((k6.mono (by simp)).trans (Ex.new hLp)).trans (Ex.set (by simp))
    rcases ha with rfl | rfl | rfl | rfl | rfl | rfl
    · exact rE.gone d2
    · exact rE.gone d1
    · exact a1
    · exact a2
    · exact hs0.gone k5
    · exact hs0.gone (k6.gone hLp (by simpa using Ne.symm p1))
  · have hcP : P ≠ c' := fun q => by rw [← q, rP] at d1; cases d1
    have hfP : P ≠ f := fun q => by rw [← q, rP] at d2; cases d2
    exact ⟨_, by rw [upd_ne _ _ hfP, upd_ne _ _ hcP, upd_self]⟩
  · have hcP : c' ≠ P := fun q => by rw [q, rP] at d1; cases d1
    have hfP : f ≠ P := fun q => by rw [q, rP] at d2; cases d2
    refine (((rE.mono (by simp)).trans (Ex.set (by simp))).trans (Ex.new ?_)).trans (Ex.new ?_)
    · rw [upd_ne _ _ hcP]; exact d1
    · rw [upd_ne _ _ (Ne.symm d3), upd_ne _ _ hfP]; exact d2
end
end Mine
end
section
open PySem PySem.W PyProof.Rows PySem.Calls PySem.Spec
set_option Elab.async false
set_option maxRecDepth 100000
set_option maxHeartbeats 0
namespace Mine
def beN : Nat → Nat → List Nat
  | 0, _ => []
  | k + 1, c => (c / 256 ^ k % 256) :: beN k c
theorem beN_be : ∀ k c, (beN k c).map (fun x => x.toUInt8) = be k c
  | 0, _ => rfl
  | k + 1, c => by rw [beN, be, List.map_cons, beN_be k c]
theorem beN_lt : ∀ k c, ∀ x ∈ beN k c, x < 256
  | 0, _, x, h => by cases h
  | k + 1, c, x, h => by
    rcases List.mem_cons.mp h with rfl | h
    · exact Nat.mod_lt _ (by decide)
    · exact beN_lt k c x h
theorem beN_length : ∀ k c, (beN k c).length = k
  | 0, _ => rfl
  | k + 1, c => by rw [beN, List.length_cons, beN_length k c]
section
variable {C : Cx} {σ : Store} {n : Nat} {env : Env} {ε : Loc} {Q : V → Store → Prop} {X : AX → Store → Prop} {QS : Fl → Loc → Store → Prop}
inductive NoI (c : Nat) (l : Addr) (σ : Store) (t : Nat) (ε : Loc) (σ' : Store) : Prop
  | mk (q1 : ε.lookup ("found" : Str) = some (.obj l)) (q2 : ε.lookup ("number" : Str) = some (.int (c / 256 ^ t : Nat))) (q3 : σ' l = some (.list ((beN t c).map fun x => .int (x : Nat)))) (q4 : Ex [l] (upd σ l (.list [])) σ')
theorem number_octets_spec (O : L1 C) {c w : Nat} (hw : w ≤ 4) : CALL C (n + 4) (.ref 259) [.int c, .int w] σ (fun r σ' => r = .bytes (be w c).toArray ∧ Ex [] σ σ') X := by
  refine CALL_def (names := ["number", "width"]) O.ok (O.k (f := fun K => K.lookup 259) (by k_is)) (O.k (f := fun K => codeIn K _ _) (by k_is)) ?_ (by decide) (by decide) ?_
  · exact all2 fun _ _ => rfl
  intro L
  refine TS_cons (TS_Assign (EV_List (TL_nil ⟨by simp, fun l hl => SN_local ?_⟩)))
  show TS _ _ _ _ (execs (_ :: _) _) _ _ _
  refine TS_cons (TS_For_it rfl (IT_range (bl O ⟨rfl, rfl⟩) (TL_cons (EV_local rfl (TL_nil ⟨0, _, 1, w, .inl ⟨rfl, rfl, rfl⟩, small_nat (by omega), size_nat _, ?_⟩)))))
  rw [upto_map]
  refine ForW_each (NoI c l σ) _ _ (fun t t' ht ε σ' ⟨q1, q2, q3, q4⟩ => ?_) (fun ε σ' ⟨q1, q2, q3, q4⟩ => ?_) ⟨rfl, by rw [Nat.pow_zero, Nat.div_one]; rfl, by rw [upd_self]; rfl, Ex.refl⟩
  · have htl : t < w := by simpa using (List.getElem?_eq_some_iff.mp ht).1
    refine TA_Name (SN_local (TS_cons (TS_Expr (EV_Method (EV_local q1 (meth_list PySem.F.slot_list_insert PySem.F.type_list_insert q3 (CW_cons (TL_cons (EV_int (TL_cons (EV_BinOp (EV_local q2 (EV_int (mod_ii (by decide) (TL_nil ⟨Kp_builtin, insert0_l q3 (by simp [beN_length]; omega) ?_⟩)))))))))))))))
    show TS _ _ _ _ (execs (_ :: _) _) _ _ _
    refine TS_cons (TS_Assign (EV_BinOp (EV_local q2 (EV_int (div_ii (by decide) (by decide) (SN_local (TS_nil ⟨trivial, q1, ?_, ?_, q4.trans (Ex.set (by simp))⟩)))))))
    · show some (V.int _) = some (V.int _)
      rw [Int.fdiv_eq_ediv_of_nonneg _ (by decide), Nat.pow_succ, ← Nat.div_div_eq_div_mul]; rfl
    · rw [upd_self, beN, List.map_cons]
      rw [Int.fmod_eq_emod_of_nonneg _ (by decide)]; rfl
  · rw [List.length_range] at q3
    show TS _ _ _ _ (execs (_ :: _) _) _ _ _
    refine TS_cons (TS_Return (bc O (TL_cons (EV_local q1 (TL_nil (bytes_ints (n := n + 2) (ns := (beN w c).map fun x => ((x : Nat) : Int)) (by rw [q3, List.map_map]; rfl) ?_ (by simp [beN_length]; omega) ⟨?_, ?_⟩))))))
    · intro k hk
      obtain ⟨x, hx, rfl⟩ := List.mem_map.mp hk
      have := beN_lt w c x hx
      omega
    · unfold byteList
      rw [List.map_map, ← beN_be]
      rfl
    · exact (Ex.new hl).freshs q4 (by simpa using hl)
end
end Mine
end
section
open PySem PySem.W PyProof.Rows PySem.Calls PySem.Spec
set_option Elab.async false
set_option maxRecDepth 100000
set_option maxHeartbeats 0
namespace Mine
def LV (c : Cont) : List V := match c with
  | .seq rows => rows.map .bytes
  | .rel rows => rows.map rowV
def LFV (σ : Store) (v : V) (f : Str × Cont) : Prop := ∃ c, v = .tup [.str f.1, .obj c] ∧ σ c = some (.list (LV f.2))
inductive LFS (σ : Store) : List (Str × V) → Files → Prop
  | nil : LFS σ [] []
  | cons {p : Str} {v : V} {f : Str × Cont} {es fs} : LFV σ v f → LFS σ es fs → LFS σ ((p, v) :: es) ((p, f) :: fs)
def LSt (σ : Store) (D : Addr) (fs : Files) : Prop := ∃ es ep, σ D = some (.dictS es ep) ∧ LFS σ es fs
section
variable {σ σ' : Store} {S : List Addr}
def LOff (σ : Store) (c : Addr) : Prop := ∀ l, σ c ≠ some (.list l)
theorem LFS.ex (h : Ex S σ σ') (hS : ∀ c ∈ S, LOff σ c) : ∀ {es : List (Str × V)} {fs : Files}, LFS σ es fs → LFS σ' es fs
  | _, _, .nil => .nil
  | _, _, .cons ⟨c, e, k⟩ b => .cons ⟨c, e, h _ _ k fun q => hS c q _ k⟩ (b.ex h hS)
theorem LFS.keys : ∀ {es : List (Str × V)} {fs : Files}, LFS σ es fs → es.map (·.1) = fs.map (·.1)
  | _, _, .nil => rfl
  | _, _, .cons _ b => by simp [b.keys]
theorem LFS.value {p : Str} : ∀ {es : List (Str × V)} {fs : Files}, LFS σ es fs → match vlB fs p with | some f => ∃ v, valueA es p = some v ∧ LFV σ v f | none => valueA es p = none
  | _, _, .nil => rfl
  | _, _, .cons (p := q) (v := v) (f := f) (es := es) (fs := fs) a b => by
    have ih := b.value (p := p)
    unfold vlB valueA at *
    simp only [List.find?_cons]
    by_cases e : q = p
    · simp only [e, decide_true]; exact ⟨v, rfl, a⟩
    · simp only [e, decide_false]; exact ih
theorem LFS.any {p : Str} : ∀ {es : List (Str × V)} {fs : Files}, LFS σ es fs → (es.any fun kv => decide (kv.1 = p)) = fs.any fun kv => decide (kv.1 = p)
  | _, _, .nil => rfl
  | _, _, .cons a b => by simp [b.any]
theorem LFS.mapp {p : Str} {v : V} {f : Str × Cont} (hv : LFV σ v f) : ∀ {es : List (Str × V)} {fs : Files}, LFS σ es fs → LFS σ (es.map fun kv => if kv.1 = p then (kv.1, v) else kv) (fs.map fun kv => if kv.1 = p then (kv.1, f) else kv)
  | _, _, .nil => .nil
  | _, _, .cons (p := q) a b => by
    simp only [List.map_cons]
    by_cases e : q = p
    · simp only [e, if_true]; exact .cons hv (b.mapp hv)
    · simp only [e, if_false]; exact .cons a (b.mapp hv)
theorem LFS.snoc {p : Str} {v : V} {f : Str × Cont} (hv : LFV σ v f) : ∀ {es : List (Str × V)} {fs : Files}, LFS σ es fs → LFS σ (es ++ [(p, v)]) (fs ++ [(p, f)])
  | _, _, .nil => .cons hv .nil
  | _, _, .cons a b => .cons a (b.snoc hv)
theorem LFS.put {p : Str} {v : V} {f : Str × Cont} (hv : LFV σ v f) {es : List (Str × V)} {fs : Files} (h : LFS σ es fs) : LFS σ (storedA es p v) (stB fs p f) := by
  unfold storedA stB
  rw [h.any]
  split
  · exact h.mapp hv
  · exact h.snoc hv
end
def toC : Str × Cont → Str × Cont
  | (k, .seq rows) => (k, .seq rows)
  | (k, .rel rows) => (k, .rel (relOf rows))
def shelfOf (fs : Files) : Files := (fs.map (·.1)).foldl (fun acc p => stB acc p (toC (fileOf fs p))) []
def LWF (f : Str × Cont) : Prop := f.1 ∈ kinds ∧ match f.2 with
  | .seq rows => f.1 ≠ "relative" ∧ rows.length ≤ 200 ∧ ∀ b ∈ rows, b.size ≤ 200
  | .rel es => f.1 = "relative" ∧ es.length < 64 ∧ ∀ p ∈ es, 1 ≤ p.1 ∧ p.2.size ≤ 200
def LWFs (fs : Files) : Prop := fs.length < 64 ∧ ∀ p ∈ fs, LWF p.2 ∧ p.1.cps.size ≤ 1000
theorem lfile_of {fs : Files} (w : LWFs fs) {p : Str} (h : p ∈ fs.map (·.1)) : vlB fs p = some (fileOf fs p) ∧ LWF (fileOf fs p) ∧ p.cps.size ≤ 1000 := by
  obtain ⟨f, e, m⟩ := vlB_mem h
  have : fileOf fs p = f := by unfold fileOf; rw [e]; rfl
  rw [this]
  exact ⟨e, w.2 _ m⟩
end Mine
end
section
open PySem PySem.W PyProof.Rows PySem.Calls PySem.Spec
set_option Elab.async false
set_option maxRecDepth 100000
set_option maxHeartbeats 0
namespace Mine
section
variable {C : Cx} {σ : Store} {n : Nat} {env : Env} {ε : Loc} {Q : V → Store → Prop} {X : AX → Store → Prop} {QS : Fl → Loc → Store → Prop}
inductive LsI (x D Dl : Addr) (fs : Files) (σ₁ : Store) (i : Nat) (ε : Loc) (σ' : Store) : Prop
  | mk (e1 : ε.lookup ("files" : Str) = some (.obj Dl)) (e2 : ε.lookup ("found" : Str) = some (.obj x)) (e3 : Ex [D] σ₁ σ') (e4 : SHx σ' x D (((fs.map (·.1)).take i).foldl (fun acc p => stB acc p (toC (fileOf fs p))) []))
inductive ShQ (σ : Store) (fs : Files) (r : V) (σ' : Store) : Prop
  | mk (x D : Addr) (h1 : r = .obj x) (h2 : SHx σ' x D (shelfOf fs)) (h3 : σ x = none) (h4 : σ D = none) (h5 : Ex [] σ σ')
theorem shelf_spec (O : L1 C) {Dl : Addr} {fs : Files} (s : LSt σ Dl fs) (w : LWFs fs) :
    CALL C (n + 10) (.ref 271) [.obj Dl] σ (ShQ σ fs) X := by
  obtain ⟨es, ep, h1, h2⟩ := s
  refine CALL_def (names := ["files"]) O.ok (O.k (f := fun K => K.lookup 271) (by k_is)) (O.k (f := fun K => codeIn K _ _) (by k_is)) ?_ (by decide) (by decide) ?_
  · exact all1 fun _ => rfl
  intro L
  refine TS_cons (TS_Assign (gc0 O ((new_spec (n := n + 6) O).mono ?_ fun _ _ z => z)))
  rintro r σ₁ ⟨x, D, rfl, hx, hD, s1, hE⟩
  refine SN_local ?_
  show TS _ _ _ _ (execs (_ :: _) _) _ _ _
  have g1 := hE.get h1
  have hkeys : keysS es = (fs.map (·.1)).map V.str := by unfold keysS; rw [← h2.keys, List.map_map]; rfl
  refine TS_cons (TS_For_it rfl (IT_val (EV_local rfl ⟨_, _, goes_dict g1, ?_⟩)))
  rw [hkeys]
  have hDl : Dl ≠ D := fun q => by rw [q, hD] at h1; cases h1
  refine ForW_each (LsI x D Dl fs σ₁) _ (fs.map (·.1)) (fun i p hp ε σ' ⟨e1, e2, e3, e4⟩ => ?_) (fun ε σ' ⟨e1, e2, e3, e4⟩ => ?_) ⟨rfl, rfl, Ex.refl, s1⟩
  · obtain ⟨hf, hw, _⟩ := lfile_of w (List.mem_of_getElem? hp)
    have eall : Ex [] σ σ' := hE.freshs e3 (by simpa using hD)
    have g2 := eall.get h1
    have g3 := h2.ex eall (by simp)
    have hv := g3.value (p := p)
    rw [hf] at hv
    obtain ⟨v, ev, c, rfl, hc⟩ := hv
    obtain ⟨d', es', ep', k1, k2, k3, k4⟩ := id e4
    have hsz : (((fs.map (·.1)).take i).foldl (fun acc p => stB acc p (toC (fileOf fs p))) []).length ≤ 1000 := by
      have := copy_length ((fs.map (·.1)).take i) (fun p => toC (fileOf fs p)) []
      have hw1 := w.1
      simp only [List.length_nil, List.length_take, List.length_map] at this
      omega
    have hil : i < fs.length := by have := (List.getElem?_eq_some_iff.mp hp).1; simpa using this
    generalize hacc : (((fs.map (·.1)).take i).foldl (fun acc p => stB acc p (toC (fileOf fs p))) []) = acc at e4 hsz
    have fin : ∀ σ₅, SHx σ₅ x D (stB acc p (toC (fileOf fs p))) → Ex [D] σ' σ₅ → σ₅ Dl = some (.dictS es ep) ∧ Ex [D] σ₁ σ₅ ∧ SHx σ₅ x D (((fs.map (·.1)).take (i + 1)).foldl (fun acc p => stB acc p (toC (fileOf fs p))) []) := by
      intro σ₅ q1 q2
      have e6 := e3.trans q2
      exact ⟨e6 _ _ g1 (by simpa using hDl), e6, by rw [foldl_take hp, hacc]; exact q1⟩
    generalize hff : fileOf fs p = f at hw fin hc ev
    refine TA_Name (SN_local ?_)
    refine TS_cons (TS_Expr (EV_Method (EV_local e2 (sh_meth (f := 110) O k1 k2 (CW_cons (TL_cons (EV_local rfl (TL_cons ?_))))))))
    refine EV_Sub (EV_Sub (EV_local e1 (EV_local rfl (sub_dictS g2 ev (EV_int (sub_tup (j := 0) rfl rfl (TL_cons ?_)))))))
    refine EV_Sub (EV_Sub (EV_local e1 (EV_local rfl (sub_dictS g2 ev (EV_int (sub_tup (j := 1) rfl rfl (TL_nil ⟨Kp_K O.ok (O.k (f := fun K => keepIn K _) (by k_is)), OPL_call ?_⟩)))))))
    obtain ⟨fk, fc⟩ := f
    cases fc with
    | seq rows =>
      obtain ⟨wk, w1, w2, w3⟩ := hw
      refine (lay_other_spec (n := n + 1) (P := fun _ => True) (k := fk) (rows := rows) O e4 hsz ?_ (.inl ⟨c, rfl, hc⟩) (by omega) w1 trivial).mono ?_ fun ax σ' z => absurd wk z.1
      · have : ∀ k ∈ kinds, k.length ≤ 1000 := by decide
        exact this _ wk
      rintro r σ₅ ⟨_, _, q1, q2⟩
      exact TS_nil (fin σ₅ q1 q2 |> fun z => ⟨z.1, e1, e2, z.2.1, z.2.2⟩)
    | rel rows =>
      obtain ⟨wk, w1, w2, w3⟩ := hw
      have w1' : fk = "relative" := w1
      subst w1'
      refine (lay_rel_spec (n := n + 1) (P := fun _ => True) (rows := rows) O e4 hsz (.inl ⟨c, rfl, hc⟩) (by omega) trivial).mono ?_ fun ax σ' z => absurd (fun r hr => (w3 r hr).1) z.1
      rintro r σ₅ ⟨_, _, q1, q2⟩
      exact TS_nil (fin σ₅ q1 q2 |> fun z => ⟨z.1, e1, e2, z.2.1, z.2.2⟩)
  · show TS _ _ _ _ (execs (_ :: _) _) _ _ _
    refine TS_cons (TS_Return (EV_local e2 ⟨x, D, rfl, ?_, hx, hD, hE.freshs e3 (by simpa using hD)⟩))
    rw [List.take_length] at e4; exact e4
end
end Mine
end
section
open PySem PySem.W PyProof.Rows PySem.Calls PySem.Spec
set_option Elab.async false
set_option maxRecDepth 100000
set_option maxHeartbeats 0
namespace Mine
section
variable {C : Cx} {σ : Store} {n : Nat} {env : Env} {ε : Loc} {Q : V → Store → Prop} {X : AX → Store → Prop} {QS : Fl → Loc → Store → Prop}
theorem refused_spec (O : L1 C) {f : Addr} (kp : Kp C σ (.ref f)) (h : CALL C n (.ref f) [] σ (fun _ σ' => Q (.bool false) σ') (fun ax σ' => ax.C = 60 ∧ Q (.bool true) σ')) :
    CALL C (n + 1) (.ref 278) [.obj f] σ Q X := by
  refine CALL_def (names := ["act"]) O.ok (O.k (f := fun K => K.lookup 278) (by k_is)) (O.k (f := fun K => codeIn K _ _) (by k_is)) ?_ (by decide) (by decide) ?_
  · exact all1 fun _ => rfl
  intro L
  refine TS_cons (TS_Try (c := 60) (X₀ := fun ax σ' => ax.C = 60 ∧ Q (.bool true) σ') O.ok rfl (excIn60 O) ?_ (fun ε σ' => gl O ⟨rfl, rfl⟩) (fun ax σ' z => z.1) (fun ε ax σ' z => ?_))
  · refine TS_cons (TS_Expr (EV_Call (EV_local rfl ⟨_, one_obj _, CW_nil kp (OPL_call (h.mono (fun v σ' z => ?_) fun _ _ z => z))⟩)))
    refine TS_nil ?_
    show TS _ _ _ _ (execs (_ :: _) _) _ _ _
    exact TS_cons (TS_Return (EV_bool z))
  · exact TS_cons (TS_Return (EV_bool z.2))
end
end Mine
end
section
open PySem PySem.W PyProof.Rows PySem.Calls PySem.Spec
set_option Elab.async false
set_option maxRecDepth 100000
set_option maxHeartbeats 0
namespace Mine
def lrowsB : Cont → List UInt8
  | .seq rows => rows.flatMap rowB
  | .rel rows => rows.flatMap fun r => be 4 r.1.toNat ++ rowB r.2
def lfileB (p : Str) (f : Str × Cont) : List UInt8 := letter f.1 :: (pathBytes p ++ (be 4 (LV f.2).length ++ lrowsB f.2))
def laidB (fs : Files) : List UInt8 := (pathsOf fs).flatMap fun p => lfileB p (fileOf fs p)
def LGood (fs : Files) : Prop := ∀ p ∈ pathsOf fs, goodPath p ∧ ∀ r, (fileOf fs p).2 = .rel r → ∀ y ∈ r, y.1 < 4294967296
def lettersD : List (Str × V) := [("sequential", .bytes #[83]), ("relative", .bytes #[82]), ("indexed", .bytes #[73])]
theorem lettersD_at : ∀ k ∈ kinds, valueA lettersD k = some (.bytes [letter k].toArray) := by
  intro k hk
  simp only [kinds, List.mem_cons, List.not_mem_nil, or_false] at hk
  rcases hk with rfl | rfl | rfl <;> rfl
theorem LV_len {f : Str × Cont} (w : LWF f) : (LV f.2).length ≤ 200 := by
  obtain ⟨k, c⟩ := f
  cases c with
  | seq rows => obtain ⟨_, _, h, _⟩ := w; simpa [LV] using h
  | rel es => obtain ⟨_, _, h, _⟩ := w; have h' : es.length < 64 := h; show (es.map rowV).length ≤ 200; rw [List.length_map]; omega
theorem lrowsB_len {f : Str × Cont} (w : LWF f) : (lrowsB f.2).length ≤ 49000 := by
  obtain ⟨k, c⟩ := f
  cases c with
  | seq rows =>
    obtain ⟨_, _, h, h2⟩ := w
    have := flat_len rowB 202 rows fun b hb => rowB_len (h2 b hb)
    have h' : rows.length ≤ 200 := h
    show (rows.flatMap rowB).length ≤ _; omega
  | rel es =>
    obtain ⟨_, _, h, h2⟩ := w
    have := flat_len (fun r : Int × Array UInt8 => be 4 r.1.toNat ++ rowB r.2) 206 es fun r hr => by
      have := rowB_len (h2 r hr).2
      rw [List.length_append, be_length]; omega
    have h' : es.length < 64 := h
    show (es.flatMap fun r => be 4 r.1.toNat ++ rowB r.2).length ≤ _; omega
section
variable {C : Cx} {σ : Store} {n : Nat} {env : Env} {ε : Loc} {Q : V → Store → Prop} {X : AX → Store → Prop} {QS : Fl → Loc → Store → Prop}
inductive LdI (Dl : Addr) (fs : Files) (σ₁ : Store) (i : Nat) (ε : Loc) (σ' : Store) : Prop
  | mk (e1 : ε.lookup ("files" : Str) = some (.obj Dl)) (e2 : ε.lookup ("found" : Str) = some (.bytes (((pathsOf fs).take i).flatMap fun p => lfileB p (fileOf fs p)).toArray)) (e3 : (((pathsOf fs).take i).flatMap fun p => lfileB p (fileOf fs p)).length ≤ i * 50000) (e4 : Ex [] σ₁ σ')
inductive LdS (Dl : Addr) (fk : Str) (base : List UInt8) (rows : List (Array UInt8)) (σ₆ : Store) (i : Nat) (ε : Loc) (σ' : Store) : Prop
  | mk (q1 : ε.lookup ("kind" : Str) = some (.str fk)) (q2 : ε.lookup ("files" : Str) = some (.obj Dl)) (q3 : ε.lookup ("found" : Str) = some (.bytes (base ++ (rows.take i).flatMap rowB).toArray)) (q4 : Ex [] σ₆ σ')
inductive LdR (Dl : Addr) (fk : Str) (base : List UInt8) (es : List (Int × Array UInt8)) (σ₆ : Store) (i : Nat) (ε : Loc) (σ' : Store) : Prop
  | mk (q1 : ε.lookup ("kind" : Str) = some (.str fk)) (q2 : ε.lookup ("files" : Str) = some (.obj Dl)) (q3 : ε.lookup ("found" : Str) = some (.bytes (base ++ (es.take i).flatMap fun r => be 4 r.1.toNat ++ rowB r.2).toArray)) (q4 : Ex [] σ₆ σ')
theorem laid_spec (O : L1 C) {Dl : Addr} {fs : Files} (s : LSt σ Dl fs) (w : LWFs fs) (hg : LGood fs) :
    CALL C (n + 10) (.ref 264) [.obj Dl] σ (fun r σ' => r = .bytes (laidB fs).toArray ∧ Ex [] σ σ') X := by
  obtain ⟨es, ep, h1, h2⟩ := s
  refine CALL_def (names := ["files"]) O.ok (O.k (f := fun K => K.lookup 264) (by k_is)) (O.k (f := fun K => codeIn K _ _) (by k_is)) ?_ (by decide) (by decide) ?_
  · exact all1 fun _ => rfl
  intro L
  refine TS_cons (TS_Assign (EV_bytes (SN_local ?_)))
  show TS _ _ _ _ (execs (_ :: _) _) _ _ _
  refine TS_cons (TS_For_it rfl (IT_val (bc O (TL_cons (EV_local rfl (TL_nil (sorted_dictS (n := n + 8) h1 (by have := congrArg List.length h2.keys; simp at this; have := w.1; omega) fun l hl => ?_)))))))
  rw [h2.keys]
  refine ⟨_, _, goes_list (upd_self _ _ _), ?_⟩
  have hlen : (pathsOf fs).length < 64 := by unfold pathsOf; rw [(sortS_perm _).length_eq]; simpa using w.1
  have hE : Ex [] σ (upd σ l (.list ((sortS (fs.map (·.1))).map .str))) := Ex.new hl
  generalize hσ1 : upd σ l (.list ((sortS (fs.map (·.1))).map .str)) = σ₁ at hE
  have hl2 : σ₁ l = some (.list ((sortS (fs.map (·.1))).map .str)) := by rw [← hσ1, upd_self]
  refine ForW_each (LdI Dl fs σ₁) _ (pathsOf fs) (fun i p hp ε σ' ⟨e1, e2, e3, e4⟩ => ?_) (fun ε σ' ⟨e1, e2, e3, e4⟩ => ?_) ⟨rfl, rfl, by simp, Ex.refl⟩
  · have hpm := List.mem_of_getElem? hp
    obtain ⟨hf, hw, hps⟩ := lfile_of w ((sortS_perm _).mem_iff.mp hpm)
    obtain ⟨hgp, hgr⟩ := hg p hpm
    have hi : i < 64 := by have := (List.getElem?_eq_some_iff.mp hp).1; omega
    have eall := hE.trans e4
    have g2 := eall.get h1
    have g3 := h2.ex eall (by simp)
    have hv := g3.value (p := p)
    rw [hf] at hv
    obtain ⟨v, ev, c, rfl, hc⟩ := hv
    generalize hacc : (((pathsOf fs).take i).flatMap fun p => lfileB p (fileOf fs p)) = acc at e2 e3
    generalize hff : fileOf fs p = f at hw hc ev hgr
    refine TA_Name (SN_local ?_)
    refine TS_cons (TS_AssignTuple (EV_Sub (EV_local e1 (EV_local rfl (sub_dictS g2 ev (TA_Tuple rfl rfl (TA_Name (SN_local (TA_Name (SN_local ?_))))))))))
    show TS _ _ _ _ (execs (_ :: _) _) _ _ _
    refine TS_cons (TS_Assign (EV_BinOp (EV_local e2 (EV_Sub ?_))))
    refine EV_Dict3S O.ok ?_
    intro d hd
    refine TP_cons (EV_str (EV_bytes (TP_cons (EV_str (EV_bytes (TP_cons (EV_str (EV_bytes (TP_nil ⟨lettersD, rfl, by decide, upd_self _ _ _, ?_⟩)))))))))
    intro ep'
    refine EV_local rfl (sub_dictS (upd_self _ _ _) (lettersD_at f.1 hw.1) (add_bb (by simp; omega) (SN_local ?_)))
    have e5 : Ex [] σ' (upd (upd σ' d (.dictS [] 0)) d (.dictS lettersD ep')) := by
      have : upd (upd σ' d (.dictS [] 0)) d (.dictS lettersD ep') = upd σ' d (.dictS lettersD ep') := by
        funext b; by_cases hb : b = d <;> simp [upd, hb]
      rw [this]; exact Ex.new hd
    generalize upd (upd σ' d (.dictS [] 0)) d (.dictS lettersD ep') = σ₃ at e5
    have hc3 := e5.get hc
    have hps2 := hgp.2
    have hpl := pathBytes_len hgp
    show TS _ _ _ _ (execs (_ :: _) _) _ _ _
    refine TS_cons (TS_Assign (EV_BinOp (EV_BinOp (EV_BinOp (EV_local rfl (bc O (TL_cons (EV_List (TL_cons (bc O (TL_cons (EV_local rfl (TL_nil (len_s (by show p.cps.size ≤ _; omega) (TL_nil ⟨by simp, fun l1 hl1 => TL_nil (bytes_ints (n := n + 8) (ns := [((p.cps.size : Nat) : Int)]) (upd_self _ _ _) ?_ (by simp) ?_)⟩)))))))))))))))
    · intro k hk; simp at hk; subst hk; omega
    have hb1 : byteList [((p.cps.size : Nat) : Int)] = (be 1 p.cps.size).toArray := by
      unfold byteList be be
      simp only [List.map_cons, List.map_nil, Int.toNat_natCast, Nat.pow_zero, Nat.div_one, Nat.mod_eq_of_lt hps2]
    rw [hb1]
    have e6 : Ex [] σ' (upd σ₃ l1 (.list [.int ((p.length : Nat) : Int)])) := e5.trans (Ex.new hl1)
    generalize upd σ₃ l1 (.list [.int ((p.length : Nat) : Int)]) = σ₄ at e6
    refine add_bb (by simp [be_length]; omega) (bc O (TL_cons (EV_ListComp (IT_val (EV_local rfl ⟨_, _, goes_str, by simp [signs]; omega, fun Cl => ?_⟩)))))
    refine CmpW_each (fun σ' => σ' = σ₄) _ (fun c => .int (c : Nat)) (fun _ _ => trivial) _ _ _ _ rfl (fun c hc ε σ₅ e => ?_) (fun σ₅ e => ?_)
    · subst e
      exact TA_Name (SN_local (TT_tests_nil ⟨rfl, bc O (TL_cons (EV_local rfl (TL_nil (ord_s ⟨rfl, rfl⟩))))⟩))
    subst e
    intro l2 hl3
    refine TL_nil (bytes_ints (n := n + 8) (ns := p.cps.toList.map fun c => ((c : Nat) : Int)) (by rw [upd_self, List.map_map]; rfl) ?_ (by simp; omega) ?_)
    · intro k hk
      obtain ⟨c, hc, rfl⟩ := List.mem_map.mp hk
      have := hgp.1 c hc
      omega
    have hb2 : byteList (p.cps.toList.map fun c => ((c : Nat) : Int)) = (p.cps.toList.map fun c => c.toUInt8).toArray := by
      unfold byteList; rw [List.map_map]; rfl
    rw [hb2]
    have e7 := e6.trans (Ex.new (S := []) (o := .list ([] ++ p.cps.toList.map fun c => .int (c : Nat))) hl3)
    have hc7 := e7.get hc
    refine add_bb (by simp [be_length]; omega) (gc O (TL_cons (bc O (TL_cons (EV_local rfl (TL_nil (len_list' hc7 ?_ (TL_cons (EV_int (TL_nil ?_))))))))))
    · have := LV_len hw; omega
    refine ((number_octets_spec (n := n + 5) (c := (LV f.2).length) (w := 4) O (by decide)).mono ?_ fun _ _ z => z)
    rintro r σ₆ ⟨rfl, e8⟩
    have hvl := LV_len hw
    refine add_bb (by simp [be_length]; omega) (SN_local ?_)
    show TS _ _ _ _ (execs (_ :: _) _) _ _ _
    have hrl := lrowsB_len hw
    have e9 := e7.trans e8
    have ebase : acc.toArray ++ [letter f.1].toArray ++ (be 1 p.cps.size).toArray ++ (p.cps.toList.map fun c => c.toUInt8).toArray ++ (be 4 (LV f.2).length).toArray = (acc ++ (letter f.1 :: (pathBytes p ++ be 4 (LV f.2).length))).toArray := by simp [pathBytes]
    rw [ebase]
    have hbl : (acc ++ (letter f.1 :: (pathBytes p ++ be 4 (LV f.2).length))).length ≤ i * 50000 + 261 := by simp [be_length]; omega
    have hfile : ∀ out : List UInt8, out = (acc ++ (letter f.1 :: (pathBytes p ++ be 4 (LV f.2).length))) ++ lrowsB f.2 → out = ((pathsOf fs).take (i + 1)).flatMap fun p => lfileB p (fileOf fs p) := by
      rintro out rfl
      rw [flat_take _ hp, hacc, hff]
      unfold lfileB
      simp
    generalize (acc ++ (letter f.1 :: (pathBytes p ++ be 4 (LV f.2).length))) = base at hbl hfile
    have e10 : Ex [] σ₁ σ₆ := e4.trans e9
    have done : ∀ (ε : Loc) (σ₇ : Store), ε.lookup ("files" : Str) = some (.obj Dl) → ε.lookup ("found" : Str) = some (.bytes (base ++ lrowsB f.2).toArray) → Ex [] σ₆ σ₇ → (σ₇ l = some (.list ((sortS (fs.map (·.1))).map .str))) ∧ LdI Dl fs σ₁ (i + 1) ε σ₇ := by
      intro ε σ₇ q1 q2 q3
      have q4 := hfile _ rfl
      exact ⟨q3.get (e10.get hl2), q1, by rw [← q4]; exact q2, by rw [← q4, List.length_append, Nat.add_mul]; omega, e10.trans q3⟩
    obtain ⟨fk, fc⟩ := f
    cases fc with
    | seq rows =>
      obtain ⟨wk, w1, w2, w3⟩ := hw
      have hk : ¬ fk = "relative" := w1
      refine TS_cons (TS_For rfl (EV_local rfl ⟨_, _, σ₆, goes_list (e8.get hc7), fun _ _ e => e, e8.get hc7, ?_⟩))
      refine ForW_each (LdS Dl fk base rows σ₆) V.bytes rows (fun i' b hb ε σ' ⟨q1, q2, q3, q4⟩ => ?_) (fun ε σ' ⟨q1, q2, q3, q4⟩ => ?_) ⟨rfl, e1, by simp, Ex.refl⟩
      · have hbs := w3 b (List.mem_of_getElem? hb)
        have hfl := flat_take_len rowB rows i'
        have hrl' : (rows.flatMap rowB).length ≤ 49000 := hrl
        refine TA_Name (SN_local (TS_cons (TS_Assign (EV_local rfl (SN_local ?_)))))
        show TS _ _ _ _ (execs (_ :: _) _) _ _ _
        refine TS_cons (TS_If (TT_Compare (EV_local q1 (EV_str (eq_ss ⟨_, rfl, ?_⟩)))))
        rw [if_neg (by show ¬ decide _ = true; rw [decide_eq_true_eq]; exact hk)]
        refine TS_nil ?_
        show TS _ _ _ _ (execs (_ :: _) _) _ _ _
        refine TS_cons (TS_Assign (EV_BinOp (EV_BinOp (EV_local q3 (gc O (TL_cons (bc O (TL_cons (EV_local rfl (TL_nil (len_b (by omega) (TL_cons (EV_int (TL_nil ((number_octets_spec (n := n + 5) (c := b.size) (w := 2) O (by decide)).mono ?_ fun _ _ z => z)))))))))))))))
        rintro r σ₇ ⟨rfl, e11⟩
        refine add_bb (by simp only [List.size_toArray, List.length_append, be_length, Array.size_append]; omega) (EV_local rfl (add_bb (by simp only [List.size_toArray, List.length_append, be_length, Array.size_append]; omega) (SN_local (TS_nil ⟨e11.get (q4.get (e8.get hc7)), q1, q2, ?_, q4.trans e11⟩))))
        show some (V.bytes _) = some (V.bytes _)
        rw [flat_take _ hb]
        congr 2
        apply Array.ext'
        simp [rowB]
      · rw [List.take_length] at q3
        exact TS_nil (done ε σ' q2 q3 q4)
    | rel es =>
      obtain ⟨wk, w1, w2, w3⟩ := hw
      have hk : fk = "relative" := w1
      have hg4 : ∀ y ∈ es, y.1 < 4294967296 := hgr es rfl
      refine TS_cons (TS_For rfl (EV_local rfl ⟨_, _, σ₆, goes_list (e8.get hc7), fun _ _ e => e, e8.get hc7, ?_⟩))
      refine ForW_each (LdR Dl fk base es σ₆) rowV es (fun i' b hb ε σ' ⟨q1, q2, q3, q4⟩ => ?_) (fun ε σ' ⟨q1, q2, q3, q4⟩ => ?_) ⟨rfl, e1, by simp, Ex.refl⟩
      · have hbm := List.mem_of_getElem? hb
        obtain ⟨hb1, hbs⟩ := w3 b hbm
        have hfl := flat_take_len (fun r : Int × Array UInt8 => be 4 r.1.toNat ++ rowB r.2) es i'
        have hrl' : (es.flatMap fun r => be 4 r.1.toNat ++ rowB r.2).length ≤ 49000 := hrl
        have hbn : b.1 = (b.1.toNat : Int) := by omega
        refine TA_Name (SN_local (TS_cons (TS_Assign (EV_local rfl (SN_local ?_)))))
        show TS _ _ _ _ (execs (_ :: _) _) _ _ _
        refine TS_cons (TS_If (TT_Compare (EV_local q1 (EV_str (eq_ss ⟨_, rfl, ?_⟩)))))
        rw [if_pos (by show decide _ = true; rw [decide_eq_true_eq]; exact hk)]
        refine TS_cons (TS_Assign (EV_BinOp (EV_local q3 (gc O (TL_cons (EV_Sub (EV_local rfl (EV_int (sub_tup (j := 0) rfl rfl (TL_cons (EV_int (TL_nil ?_))))))))))))
        rw [hbn]
        refine ((number_octets_spec (n := n + 5) (c := b.1.toNat) (w := 4) O (by decide)).mono ?_ fun _ _ z => z)
        rintro r σ₇ ⟨rfl, e11⟩
        refine add_bb (by simp only [List.size_toArray, List.length_append, be_length, Array.size_append]; omega) (SN_local ?_)
        show TS _ _ _ _ (execs (_ :: _) _) _ _ _
        refine TS_cons (TS_Assign (EV_Sub (EV_local rfl (EV_int (sub_tup (j := 1) rfl rfl (SN_local (TS_nil ?_)))))))
        show TS _ _ _ _ (execs (_ :: _) _) _ _ _
        refine TS_cons (TS_Assign (EV_BinOp (EV_BinOp (EV_local rfl (gc O (TL_cons (bc O (TL_cons (EV_local rfl (TL_nil (len_b (by omega) (TL_cons (EV_int (TL_nil ((number_octets_spec (n := n + 5) (c := b.2.size) (w := 2) O (by decide)).mono ?_ fun _ _ z => z)))))))))))))))
        rintro r σ₈ ⟨rfl, e12⟩
        refine add_bb (by simp only [List.size_toArray, List.length_append, be_length, Array.size_append]; omega) (EV_local rfl (add_bb (by simp only [List.size_toArray, List.length_append, be_length, Array.size_append]; omega) (SN_local (TS_nil ⟨e12.get (e11.get (q4.get (e8.get hc7))), q1, q2, ?_, (q4.trans e11).trans e12⟩))))
        show some (V.bytes _) = some (V.bytes _)
        rw [flat_take _ hb]
        congr 2
        apply Array.ext'
        simp [rowB]
      · rw [List.take_length] at q3
        exact TS_nil (done ε σ' q2 q3 q4)
  · show TS _ _ _ _ (execs (_ :: _) _) _ _ _
    refine TS_cons (TS_Return (EV_local e2 ⟨?_, hE.trans e4⟩))
    rw [List.take_length]; rfl
end
end Mine
end
section
open PySem PySem.W PyProof.Rows PySem.Calls PySem.Spec
set_option Elab.async false
set_option maxRecDepth 100000
set_option maxHeartbeats 0
namespace Mine
def DrawnC (kd : Str) : Cont → Prop
  | .seq rows => kd ≠ "relative" ∧ rows.length ≤ 4 ∧ ∀ b ∈ rows, b.size ≤ 3
  | .rel rows => kd = "relative" ∧ rows.length ≤ 4 ∧ (rows.map (·.1)).Pairwise (· < ·) ∧ ∀ r ∈ rows, 1 ≤ r.1 ∧ r.1 ≤ 4294967295 ∧ r.2.size ≤ 3
theorem range_getD {α : Type} (l : List α) (d : α) : (List.range l.length).map (fun i => l.getD i d) = l := by
  apply List.ext_getElem
  · simp
  · intro i h1 h2
    simp [List.getD, h2]
section
variable {C : Cx} {σ : Store} {n : Nat} {env : Env} {ε : Loc} {Q : V → Store → Prop} {X : AX → Store → Prop} {QS : Fl → Loc → Store → Prop}
theorem tk_call {f Lp : Addr} {Dl : List Addr} {T : Nat → Store → Prop} (tk : Taker C f Lp Dl T) {fe : Expr} {i : Int} {kk : Nat} {p1 pos : Pos} (m : Nat) {k : Nat} (t : T k σ) (hk : k < 450) (he : EV C (n + 6) env ε fe σ (fun x σ₁ => x = .obj f ∧ σ₁ = σ) X)
    (h : ∀ (j : Nat) σ', j < m → T (k + 1) σ' → Ex [Lp] σ σ' → Q (.int j) σ') (hm : 0 < m := by decide) (hi : i = (m : Int) := by rfl)
    (he1 : eval (.Call fe [.Constant (.int i) kk p1] [] pos) env = (do callWith pos (← eval fe env) [] (backTo pos (starEach [.Constant (.int i) kk p1] env)) []) := by rfl) : EV C (n + 6) env ε (.Call fe [.Constant (.int i) kk p1] [] pos) σ Q X := by
  refine EV_Call (TV.mono he (fun x σ₁ ⟨e1, e2⟩ => ?_) fun _ _ z => z) he1
  subst e1 e2
  refine ⟨_, one_obj _, CW_cons (TL_cons (EV_int (TL_nil ⟨tk.kp t, OPL_call ?_⟩)))⟩
  rw [hi]
  exact tk.call t hm hk h
inductive LrQ (σ : Store) (Lp : Addr) (T : Nat → Store → Prop) (k : Nat) (kd : Str) (r : V) (σ' : Store) : Prop
  | mk (c : Addr) (cont : Cont) (k' : Nat) (h1 : r = .obj c) (h2 : σ c = none) (h3 : σ' c = some (.list (LV cont))) (h4 : DrawnC kd cont) (h5 : T k' σ') (h6 : k' ≤ k + 40) (h7 : Ex [Lp] σ σ')
inductive LrA (Lp : Addr) (T : Nat → Store → Prop) (k : Nat) (σ0 : Store) (i : Nat) (acc : List V) (σ' : Store) : Prop
  | mk (bs : List (Array UInt8)) (b1 : acc = bs.map V.bytes) (b2 : bs.length = i) (b3 : ∀ b ∈ bs, b.size ≤ 3) (b4 : ∃ k', T k' σ' ∧ k' ≤ k + 1 + i * 4) (b6 : Ex [Lp] σ0 σ')
inductive LrB (Lp : Addr) (T : Nat → Store → Prop) (k' : Nat) (σ0 : Store) (i' : Nat) (acc' : List V) (σ'' : Store) : Prop
  | mk (ns : List Int) (d1 : acc' = ns.map V.int) (d2 : ns.length = i') (d3 : ∀ m ∈ ns, 0 ≤ m ∧ m < 256) (d4 : ∃ k'', T k'' σ'' ∧ k'' ≤ k' + 1 + i') (d6 : Ex [Lp] σ0 σ'')
inductive LrC (Lp : Addr) (T : Nat → Store → Prop) (k' : Nat) (σ2 : Store) (i : Nat) (acc : List V) (σ'' : Store) : Prop
  | mk (ns : List Int) (d1 : acc = ns.map V.int) (d2 : ns.length = i) (d3 : ∀ m ∈ ns, 1 ≤ m ∧ m ≤ 4294967295) (d4 : ∃ k'', T k'' σ'' ∧ k'' ≤ k' + i * 4) (d6 : Ex [Lp] σ2 σ'')
theorem lrows_spec (O : L1 C) {f Lp : Addr} {Dl : List Addr} {T : Nat → Store → Prop} (tk : Taker C f Lp Dl T) {k : Nat} (t : T k σ) (hk : k + 40 < 450) {kd : Str} :
    CALL C (n + 7) (.ref 283) [.obj f, .str kd] σ (LrQ σ Lp T k kd) X := by
  refine CALL_cells (names := ["take", "kind"]) O.ok (O.k (f := fun K => K.lookup 283) (by k_is)) (O.k (f := fun K => codeIn K _ _) (by k_is)) ?_ (by decide) (by walk_at "hk") (by decide) (by decide) ?_
  · exact all2 fun _ _ => rfl
  intro L hL
  show TS C (n + 6) _ [("kind", .str kd)] _ (upd (upd (upd σ (L + 1) (.cell (some (.obj f)))) (L + 2) (.cell none)) (L + 3) (.cell none)) _ _
  have ne : ∀ {i j : Nat}, i ≠ j → L + i ≠ L + j := fun h q => h (Nat.add_left_cancel q)
  have a1 : σ (L + 1) = none := hL _ (Nat.le_add_right L 1)
  have a2 : σ (L + 2) = none := hL _ (Nat.le_add_right L 2)
  have a3 : σ (L + 3) = none := hL _ (Nat.le_add_right L 3)
  have hs0 : Ex [] σ (upd (upd (upd σ (L + 1) (.cell (some (.obj f)))) (L + 2) (.cell none)) (L + 3) (.cell none)) :=
    ((Ex.new a1).trans (Ex.new (by rw [upd_ne _ _ (ne (by decide))]; exact a2))).trans (Ex.new (by rw [upd_ne _ _ (ne (by decide)), upd_ne _ _ (ne (by decide))]; exact a3))
  generalize hσ0 : upd (upd (upd σ (L + 1) (.cell (some (.obj f)))) (L + 2) (.cell none)) (L + 3) (.cell none) = σ0 at hs0 ⊢
  have c1 : σ0 (L + 1) = some (.cell (some (.obj f))) := by rw [← hσ0, upd_ne _ _ (ne (by decide)), upd_ne _ _ (ne (by decide)), upd_self]
  have c2 : σ0 (L + 2) = some (.cell none) := by rw [← hσ0, upd_ne _ _ (ne (by decide)), upd_self]
  have c3 : σ0 (L + 3) = some (.cell none) := by rw [← hσ0, upd_self]
  have t0 := tk.ex t hs0
  have l1 : L + 1 ∉ [Lp] := fun q => tk.has t (by rw [← List.mem_singleton.mp q]; exact a1)
  have l2 : L + 2 ∉ [Lp] := fun q => tk.has t (by rw [← List.mem_singleton.mp q]; exact a2)
  have l3 : L + 3 ∉ [Lp] := fun q => tk.has t (by rw [← List.mem_singleton.mp q]; exact a3)
  clear hσ0 hL
  refine TS_cons (TS_Assign (EV_ListComp (IT_range (bl O ⟨rfl, rfl⟩) (TL_cons (tk_call tk 5 t0 (by omega) (EV_cell rfl c1 ⟨rfl, rfl⟩) fun j1 σ₁ hj1 t1 e1 => TL_nil ⟨0, _, 1, j1, .inl ⟨rfl, rfl, rfl⟩, small_nat (by omega), size_nat _, ?_⟩)))))
  rw [upto_map]
  refine ⟨by simp; omega, fun Cl => CmpW_acc (LrA Lp T k σ0) (fun _ _ _ _ => trivial) _ (List.range j1) (fun i x hx acc ε σ' ⟨bs, b1, b2, b3, ⟨k', b4, b5⟩, b6⟩ => ?_) (fun acc σ' ⟨bs, b1, b2, b3, ⟨k', b4, b5⟩, b6⟩ => ?_) _ 0 _ _ _ rfl (Nat.zero_le _) ⟨[], rfl, rfl, by simp, ⟨k + 1, t1, by omega⟩, e1⟩⟩
  · have hij : i < j1 := by simpa using (List.getElem?_eq_some_iff.mp hx).1
    refine TA_Name (SN_local (bc O (TL_cons (EV_ListComp (IT_range (bl O ⟨rfl, rfl⟩) (TL_cons (tk_call tk 4 b4 (by omega) (EV_cell rfl (b6 _ _ c1 l1) ⟨rfl, rfl⟩) fun j2 σ₂ hj2 t2 e2 => TL_nil ⟨0, _, 1, j2, .inl ⟨rfl, rfl, rfl⟩, small_nat (by omega), size_nat _, ?_⟩)))))))
    rw [upto_map]
    refine ⟨by simp; omega, fun Cl' => CmpW_acc (LrB Lp T k' σ0) (fun _ _ _ _ => trivial) _ (List.range j2) (fun i' x' hx' acc' ε' σ'' ⟨ns, d1, d2, d3, ⟨k'', d4, d5⟩, d6⟩ => ?_) (fun acc' σ'' ⟨ns, d1, d2, d3, ⟨k'', d4, d5⟩, d6⟩ => ?_) _ 0 _ _ _ rfl (Nat.zero_le _) ⟨[], rfl, rfl, by simp, ⟨k' + 1, t2, by omega⟩, b6.trans e2⟩⟩
    · have hij' : i' < j2 := by simpa using (List.getElem?_eq_some_iff.mp hx').1
      refine TA_Name (SN_local (tk_call tk 256 d4 (by omega) (EV_cell rfl (d6 _ _ c1 l1) ⟨rfl, rfl⟩) fun j3 σ₃ hj3 t3 e3 => ?_))
      refine ⟨ns ++ [(j3 : Int)], by rw [d1, List.map_append]; rfl, by simp [d2], fun m hm => ?_, ⟨k'' + 1, t3, by omega⟩, d6.trans e3⟩
      rcases List.mem_append.mp hm with hm | hm
      · exact d3 m hm
      · rw [List.mem_singleton] at hm; subst hm; omega
    · rw [List.length_range] at d2 d5
      intro D hD
      rw [d1]
      refine TL_nil (bytes_ints (n := n + 5) (upd_self _ _ _) d3 (by omega) ?_)
      refine ⟨bs ++ [byteList ns], by rw [b1, List.map_append]; rfl, by simp [b2], fun b hb => ?_, ⟨k'', tk.ex d4 (Ex.new hD), by omega⟩, d6.trans (Ex.new hD)⟩
      rcases List.mem_append.mp hb with hb | hb
      · exact b3 b hb
      · rw [List.mem_singleton] at hb; subst hb; simp [byteList]; omega
  rw [List.length_range] at b2 b5
  intro D hD
  rw [b1]
  have hDL : D ∉ [Lp] := fun q => tk.has b4 (by rw [← List.mem_singleton.mp q]; exact hD)
  have hD2 : L + 2 ≠ D := fun q => by have := b6 _ _ c2 l2; rw [q, hD] at this; cases this
  have hD1 : L + 1 ≠ D := fun q => by have := b6 _ _ c1 l1; rw [q, hD] at this; cases this
  have hD3 : L + 3 ≠ D := fun q => by have := b6 _ _ c3 l3; rw [q, hD] at this; cases this
  refine SN_cell (o := none) rfl (by rw [upd_ne _ _ hD2]; exact b6 _ _ c2 l2) ?_
  have m2 : L + 2 ∉ Dl := tk.out t a2
  have eD : Ex [] σ' (upd σ' D (.list (bs.map V.bytes))) := Ex.new hD
  have hσD : σ D = none := hs0.gone (b6.gone hD hDL)
  have e2 : Ex [Lp] σ (upd (upd σ' D (.list (bs.map V.bytes))) (L + 2) (.cell (some (.obj D)))) := fun a o e q => by
    have n2 : a ≠ L + 2 := fun z => by rw [z, a2] at e; cases e
    have nD : a ≠ D := fun z => by rw [z, hσD] at e; cases e
    rw [upd_ne _ _ n2, upd_ne _ _ nD]; exact b6 _ _ (hs0.get e) q
  have t2 : T k' (upd (upd σ' D (.list (bs.map V.bytes))) (L + 2) (.cell (some (.obj D)))) := tk.exs b4 ((eD.mono (by simp)).trans (Ex.set (S := [L + 2]) (by simp))) (by simpa using m2)
  have d1 : (upd (upd σ' D (.list (bs.map V.bytes))) (L + 2) (.cell (some (.obj D)))) (L + 1) = some (.cell (some (.obj f))) := by rw [upd_ne _ _ (ne (by decide)), upd_ne _ _ hD1]; exact b6 _ _ c1 l1
  have d2 : (upd (upd σ' D (.list (bs.map V.bytes))) (L + 2) (.cell (some (.obj D)))) (L + 2) = some (.cell (some (.obj D))) := upd_self _ _ _
  have d3 : (upd (upd σ' D (.list (bs.map V.bytes))) (L + 2) (.cell (some (.obj D)))) (L + 3) = some (.cell none) := by rw [upd_ne _ _ (ne (by decide)), upd_ne _ _ hD3]; exact b6 _ _ c3 l3
  have dD : (upd (upd σ' D (.list (bs.map V.bytes))) (L + 2) (.cell (some (.obj D)))) D = some (.list (bs.map V.bytes)) := by rw [upd_ne _ _ (Ne.symm hD2), upd_self]
  generalize upd (upd σ' D (.list (bs.map V.bytes))) (L + 2) (.cell (some (.obj D))) = σ2 at e2 t2 d1 d2 d3 dD ⊢
  clear hs0 c1 c2 c3 t0 t1 e1 b4 b6 eD hD hD1 hD2 hD3
  show TS _ _ _ _ (execs (_ :: _) _) _ _ _
  refine TS_cons (TS_If (TT_Compare (EV_local rfl (EV_str (ne_ss ⟨_, rfl, ?_⟩)))))
  by_cases hkd : kd = "relative"
  · rw [if_neg (by simpa using hkd)]
    refine TS_nil ?_
    show TS _ _ _ _ (execs (_ :: _) _) _ _ _
    refine TS_cons (TS_Assign (bc O (TL_cons (bc O (TL_cons (EV_ListComp (IT_val (EV_cell rfl d2 ⟨_, _, goes_list dD, by simp; omega, fun Cl => ?_⟩))))))))
    refine CmpW_acc (LrC Lp T k' σ2) (fun i acc σ'' ⟨_, _, _, _, _, e⟩ => e _ _ dD hDL) V.bytes bs (fun i x hx acc ε σ'' ⟨ns, f1, f2, f3, ⟨k'', f4, f5⟩, f6⟩ => ?_) (fun acc σ'' ⟨ns, f1, f2, f3, ⟨k'', f4, f5⟩, f6⟩ => ?_) _ 0 _ _ _ rfl (Nat.zero_le _) ⟨[], rfl, rfl, by simp, ⟨k', t2, by omega⟩, Ex.refl⟩
    · have hib : i < bs.length := (List.getElem?_eq_some_iff.mp hx).1
      refine TA_Name (SN_local (EV_Sub (EV_Tuple (TL_cons (EV_BinOp (EV_int (tk_call tk 300 f4 (by omega) (EV_cell rfl (f6 _ _ d1 l1) ⟨rfl, rfl⟩) fun ja σa hja ta ea => add_ii (TL_cons (EV_BinOp (EV_int (tk_call tk 2 ta (by omega) (EV_cell rfl (ea _ _ (f6 _ _ d1 l1) l1) ⟨rfl, rfl⟩) fun jb σb hjb tb eb => sub_ii (TL_cons (EV_BinOp (EV_int (EV_BinOp (EV_int (tk_call tk 9 tb (by omega) (EV_cell rfl (eb _ _ (ea _ _ (f6 _ _ d1 l1) l1) l1) ⟨rfl, rfl⟩) fun jc σc hjc tc ec => add_ii (mul_ii (IntMulOk.of_left (by decide +kernel)) (TL_nil ⟨by simp, tk_call tk 3 tc (by omega) (EV_cell rfl (ec _ _ (eb _ _ (ea _ _ (f6 _ _ d1 l1) l1) l1) l1) ⟨rfl, rfl⟩) fun jd σd hjd td ed => ?_⟩)))))))))))))))))))
      have fin : ∀ v : Int, 1 ≤ v ∧ v ≤ 4294967295 → LrC Lp T k' σ2 (i + 1) (acc ++ [V.int v]) σd := fun v hv => by
        refine ⟨ns ++ [v], by rw [f1, List.map_append]; rfl, by simp [f2], fun m hm => ?_, ⟨k'' + 1 + 1 + 1 + 1, td, by omega⟩, (((f6.trans ea).trans eb).trans ec).trans ed⟩
        rcases List.mem_append.mp hm with hm | hm
        · exact f3 m hm
        · rw [List.mem_singleton] at hm; subst hm; exact hv
      have h3 : jd = 0 ∨ jd = 1 ∨ jd = 2 := by omega
      rcases h3 with rfl | rfl | rfl
      · exact sub_tup (j := 0) rfl rfl (fin _ (by omega))
      · exact sub_tup (j := 1) rfl rfl (fin _ (by omega))
      · exact sub_tup (j := 2) rfl rfl (fin _ (by omega))
    intro D2 hD2
    rw [f1]
    refine TL_nil (set_l (n := n + 5) (ns := ns) (upd_self _ _ _) (by omega) fun rs ks o hrs hso hsub hlen hnd => TL_nil (sorted_set (n := n + 5) (upd_self _ _ _) hso fun D4 hD4 => ?_))
    have m3 : L + 3 ∉ Dl := tk.out t a3
    have e3 : Ex [] σ'' (upd (upd (upd σ'' D2 (.list (ns.map V.int))) rs o) D4 (.list ((sortI ks).map V.int))) := ((Ex.new hD2).trans (Ex.new hrs)).trans (Ex.new hD4)
    have g3 : (upd (upd (upd σ'' D2 (.list (ns.map V.int))) rs o) D4 (.list ((sortI ks).map V.int))) D4 = some (.list ((sortI ks).map V.int)) := upd_self _ _ _
    generalize upd (upd (upd σ'' D2 (.list (ns.map V.int))) rs o) D4 (.list ((sortI ks).map V.int)) = σ3 at e3 g3 ⊢
    have h3 : σ3 (L + 3) = some (.cell none) := e3.get (f6 _ _ d3 l3)
    have n43 : D4 ≠ L + 3 := fun q => by rw [q, h3] at g3; cases g3
    refine SN_cell (o := none) rfl h3 ?_
    have e4 : Ex [L + 3] σ'' (upd σ3 (L + 3) (.cell (some (.obj D4)))) := (e3.mono (by simp)).trans (Ex.set (by simp))
    have nD3 : D ≠ L + 3 := fun q => by rw [q, d3] at dD; cases dD
    have n23 : L + 2 ≠ L + 3 := ne (by decide)
    have k2 : (upd σ3 (L + 3) (.cell (some (.obj D4)))) (L + 2) = some (.cell (some (.obj D))) := e4 _ _ (f6 _ _ d2 l2) (by simpa using n23)
    have kD : (upd σ3 (L + 3) (.cell (some (.obj D4)))) D = some (.list (bs.map V.bytes)) := e4 _ _ (f6 _ _ dD hDL) (by simpa using nD3)
    have k3 : (upd σ3 (L + 3) (.cell (some (.obj D4)))) (L + 3) = some (.cell (some (.obj D4))) := upd_self _ _ _
    have k4 : (upd σ3 (L + 3) (.cell (some (.obj D4)))) D4 = some (.list ((sortI ks).map V.int)) := by rw [upd_ne _ _ n43]; exact g3
    have t4 : T k'' (upd σ3 (L + 3) (.cell (some (.obj D4)))) := tk.exs f4 e4 (by simpa using m3)
    have e5 : Ex [Lp] σ (upd σ3 (L + 3) (.cell (some (.obj D4)))) := fun a o e q => by
      have n3 : a ≠ L + 3 := fun z => by rw [z, a3] at e; cases e
      exact e4 _ _ (f6 _ _ (e2 _ _ e q) q) (by simpa using n3)
    generalize upd σ3 (L + 3) (.cell (some (.obj D4))) = σ4 at k2 kD k3 k4 t4 e5 ⊢
    have hp := sortI_perm ks
    have hkl := hp.length_eq
    have hgt : (sortI ks).Pairwise (· < ·) := ((sortI_pw ks).and (hp.nodup_iff.mpr hnd)).imp fun h => by omega
    have hmem : ∀ m ∈ sortI ks, 1 ≤ m ∧ m ≤ 4294967295 := fun m hm => f3 m (hsub m (hp.mem_iff.mp hm))
    generalize sortI ks = qs at k4 hkl hgt hmem
    clear e4 e3 g3 h3 t2 e2 d1 d2 d3 dD f4 f6 hp hso hsub hnd hrs hD4 hD2
    show TS _ _ _ _ (execs (_ :: _) _) _ _ _
    have hqs : (qs.map V.int).length = qs.length := by simp
    refine TS_cons (TS_Return (EV_ListComp (IT_range (bl O ⟨rfl, rfl⟩) (TL_cons (bc O (TL_cons (EV_cell rfl k3 (TL_nil (len_list' k4 (by omega) (TL_nil ⟨0, _, 1, qs.length, .inl ⟨rfl, rfl, rfl⟩, small_one (by omega) (by omega) (by omega) (by omega), by rw [rangeSize_up, hqs]; simp, ?_⟩))))))))))
    rw [upto_map]
    simp only [Int.zero_add, Int.mul_one]
    refine ⟨by simp; omega, fun Cl => CmpW_each (fun σ' => σ' = σ4) _ (fun i => .tup [.int (qs.getD i 0), .bytes (bs.getD i #[])]) (fun _ _ => trivial) _ _ _ _ rfl (fun i hi ε σ' e => ?_) (fun σ' e => ?_)⟩
    · subst e
      have hi' : i < qs.length := by simpa using hi
      refine TA_Name (SN_local (TT_tests_nil ⟨rfl, ?_⟩))
      refine EV_Tuple (TL_cons (EV_Sub (EV_cell rfl k3 (EV_local rfl (sub_list (x := .int (qs.getD i 0)) k4 (by omega) ?_ (TL_cons (EV_Sub (EV_cell rfl k2 (EV_local rfl (sub_list (x := .bytes (bs.getD i #[])) kD (by omega) ?_ (TL_nil ⟨by simp, rfl, rfl⟩)))))))))))
      · rw [Int.toNat_natCast, List.getElem?_map]; simp [List.getD, hi']
      · rw [Int.toNat_natCast, List.getElem?_map]; simp [List.getD, show i < bs.length from by omega]
    · subst e
      intro D5 hD5
      refine ⟨D5, .rel ((List.range qs.length).map fun i => (qs.getD i 0, bs.getD i #[])), k'', rfl, ?_, ?_, ⟨hkd, by simp; omega, ?_, ?_⟩, tk.ex t4 (Ex.new hD5), by omega, e5.trans (Ex.new hD5)⟩
      · exact e5.gone hD5 fun q => tk.has t4 (by rw [← List.mem_singleton.mp q]; exact hD5)
      · rw [upd_self]
        show some (AO.list _) = some (AO.list _)
        rw [List.nil_append]
        show _ = some (AO.list (List.map rowV _))
        rw [List.map_map]; rfl
      · rw [List.map_map]
        show List.Pairwise _ ((List.range qs.length).map fun i => qs.getD i 0)
        rw [range_getD]; exact hgt
      · intro r hr
        obtain ⟨i, hi, rfl⟩ := List.mem_map.mp hr
        have hi' : i < qs.length := by simpa using hi
        have h1 := hmem (qs.getD i 0) (by simp [List.getD, hi'])
        exact ⟨h1.1, h1.2, b3 _ (by simp [List.getD, show i < bs.length from by omega])⟩
  · rw [if_pos (by simpa using hkd)]
    exact TS_cons (TS_Return (EV_cell rfl d2 ⟨D, .seq bs, k', rfl, hσD, dD, ⟨hkd, by omega, b3⟩, t2, by omega, e2⟩))
end
end Mine
end
section
open PySem PySem.W PyProof.Rows PySem.Calls PySem.Spec
set_option Elab.async false
set_option maxRecDepth 100000
set_option maxHeartbeats 0
namespace Mine
def fsW : Files := [("b!", ("indexed", .seq [])), ("ab", ("relative", .rel [(258, #[]), (1, #[120])])), ("a", ("sequential", .seq [#[104, 105], #[]]))]
def fsR : Files := [("a", ("sequential", .seq [#[104, 105], #[]])), ("ab", ("relative", .rel [(1, #[120]), (258, #[])])), ("b!", ("indexed", .seq []))]
def octW : List UInt8 := [83, 1, 97, 0, 0, 0, 2, 0, 2, 104, 105, 0, 0, 82, 2, 97, 98, 0, 0, 0, 2, 0, 0, 0, 1, 0, 1, 120, 0, 0, 1, 2, 0, 0, 73, 2, 98, 33, 0, 0, 0, 0]
def toldW : List V := [.tup [.str "a", .str "sequential", .tup [.bytes #[104, 105], .bytes #[]]], .tup [.str "ab", .str "relative", .tup [.tup [.int 1, .bytes #[120]], .tup [.int 258, .bytes #[]]]], .tup [.str "b!", .str "indexed", .tup []]]
abbrev fsV : Files := [("b!", ("indexed", .seq [])), ("ab", ("relative", .rel [(258, #[]), (1, #[120])])), ("a", ("sequential", .seq [#[104, 105], #[]]))]
theorem w5 : shelfOf fsW = fsV := by kernel_rfl
theorem w6 : pathsOf (shelfOf fsW) = (["a", "ab", "b!"] : List Str) := by
  unfold pathsOf; rw [w5]
  exact (sortS_of (by decide +kernel) (by decide +kernel)).symm
theorem w6' : pathsOf fsR = (["a", "ab", "b!"] : List Str) := by
  unfold pathsOf
  exact (sortS_of (by decide +kernel) (by decide +kernel)).symm
theorem s1 : sortI [258, 1] = [1, 258] := (sortI_of (by decide +kernel) (by decide +kernel)).symm
theorem s2 : sortI [1, 258] = [1, 258] := (sortI_of (by decide +kernel) (by decide +kernel)).symm
theorem r1 : relRows [(258, #[]), (1, #[120])] = [(1, #[120]), (258, #[])] := by
  have : relRows [(258, #[]), (1, #[120])] = (sortI [258, 1]).map fun k => (k, (vlB [((258 : Int), (#[] : Array UInt8)), (1, #[120])] k).getD #[]) := rfl
  rw [this, s1]; decide +kernel
theorem r2 : relRows [(1, #[120]), (258, #[])] = [(1, #[120]), (258, #[])] := by
  have : relRows [(1, #[120]), (258, #[])] = (sortI [1, 258]).map fun k => (k, (vlB [((1 : Int), (#[120] : Array UInt8)), (258, #[])] k).getD #[]) := rfl
  rw [this, s2]; decide +kernel
theorem w1 : writeB (shelfOf fsW) = octW := by
  unfold writeB
  rw [w6, w5]
  have e : (["a", "ab", "b!"] : List Str).flatMap (fun p => fileB p (fileOf fsV p)) =
    fileB "a" ("sequential", .seq [#[104, 105], #[]]) ++ (fileB "ab" ("relative", .rel [(258, #[]), (1, #[120])]) ++ fileB "b!" ("indexed", .seq [])) := by kernel_rfl
  rw [e]
  unfold fileB
  dsimp only
  rw [tellRows_rel]
  unfold rowsB
  dsimp only
  rw [r1]
  decide +kernel
theorem w2 : readAll octW = .ok fsR := by kernel_rfl
theorem w3 : told fsR = toldW := by
  unfold told
  rw [w6']
  have e : (["a", "ab", "b!"] : List Str).map (fun p => V.tup [.str p, .str (fileOf fsR p).1, .tup (tellRows (fileOf fsR p).2)]) =
    [.tup [.str "a", .str "sequential", .tup [.bytes #[104, 105], .bytes #[]]], .tup [.str "ab", .str "relative", .tup (tellRows (.rel [(1, #[120]), (258, #[])]))], .tup [.str "b!", .str "indexed", .tup []]] := by kernel_rfl
  rw [e, tellRows_rel, r2]; rfl
theorem w4 : told (shelfOf fsW) = toldW := by
  unfold told
  rw [w6, w5]
  have e : (["a", "ab", "b!"] : List Str).map (fun p => V.tup [.str p, .str (fileOf fsV p).1, .tup (tellRows (fileOf fsV p).2)]) =
    [.tup [.str "a", .str "sequential", .tup [.bytes #[104, 105], .bytes #[]]], .tup [.str "ab", .str "relative", .tup (tellRows (.rel [(258, #[]), (1, #[120])]))], .tup [.str "b!", .str "indexed", .tup []]] := by kernel_rfl
  rw [e, tellRows_rel, r1]; rfl
theorem w7 : readAll [] = .ok [] := by kernel_rfl
theorem w8 : told [] = [] := by
  unfold told pathsOf
  rw [← sortS_of (l := ([] : Files).map (·.1)) (m := []) (by decide) (by decide)]; rfl
theorem wfR : WFs fsR := by
  refine ⟨by decide, fun p hp => ?_⟩
  simp only [fsR, List.mem_cons, List.not_mem_nil, or_false] at hp
  rcases hp with rfl | rfl | rfl
  · exact ⟨⟨by decide, by decide, by decide, by decide⟩, by decide⟩
  · exact ⟨⟨by decide, rfl, by decide, by decide⟩, by decide⟩
  · exact ⟨⟨by decide, by decide, by decide, by decide⟩, by decide⟩
theorem wfW : WFs (shelfOf fsW) := by
  rw [w5]
  refine ⟨by decide, fun p hp => ?_⟩
  simp only [List.mem_cons, List.not_mem_nil, or_false] at hp
  rcases hp with rfl | rfl | rfl
  · exact ⟨⟨by decide, by decide, by decide, by decide⟩, by decide⟩
  · exact ⟨⟨by decide, rfl, by decide, by decide⟩, by decide⟩
  · exact ⟨⟨by decide, by decide, by decide, by decide⟩, by decide⟩
theorem lwfW : LWFs fsW := by
  refine ⟨by decide, fun p hp => ?_⟩
  simp only [fsW, List.mem_cons, List.not_mem_nil, or_false] at hp
  rcases hp with rfl | rfl | rfl
  · exact ⟨⟨by decide, by decide, by decide, by decide⟩, by decide⟩
  · exact ⟨⟨by decide, rfl, by decide, by decide⟩, by decide⟩
  · exact ⟨⟨by decide, by decide, by decide, by decide⟩, by decide⟩
theorem wgW : WrGood (shelfOf fsW) := by
  intro p hp
  rw [w6] at hp
  simp only [List.mem_cons, List.not_mem_nil, or_false] at hp
  rw [w5]
  rcases hp with rfl | rfl | rfl
  · exact ⟨⟨by decide, by decide⟩, trivial⟩
  · exact ⟨⟨by decide, by decide⟩, by show ∀ r ∈ relRows [(258, #[]), (1, #[120])], r.1 < 4294967296; rw [r1]; decide⟩
  · exact ⟨⟨by decide, by decide⟩, trivial⟩
end Mine
end
section
open PySem PySem.W PyProof.Rows PySem.Calls PySem.Spec
set_option Elab.async false
set_option maxRecDepth 100000
set_option maxHeartbeats 0
namespace Mine
section
variable {C : Cx} {σ : Store} {n : Nat} {env : Env} {ε : Loc} {Q : V → Store → Prop} {X : AX → Store → Prop} {QS : Fl → Loc → Store → Prop}
theorem keysND : (["b!", "ab", "a"] : List Str).Nodup := by decide
theorem EV_written (O : L1 C) {pos : Pos} (h : Q (.bytes octW.toArray) σ) (hk : env.scope.kind = .function := by rfl) (hl : env.kindOf "_law_WRITTEN" = some .globalImplicit := by rfl) (hg : env.globals = mainGlobals := by rfl) : EV C n env ε (.Name "_law_WRITTEN" pos) σ Q X := by
  refine EV_global (y := .bytes octW.toArray) O.ok (O.k (f := fun K => nsIn K mainGlobals "_law_WRITTEN") (by k_is)) (fun h K => ?_) h hk hl hg
  exact ⟨_, rfl⟩
theorem written_spec (O : L1 C) : CALL C (n + 15) (.ref 290) [] σ (fun r σ' => r = .bool true ∧ Ex [] σ σ') X := by
  refine CALL_def (names := []) O.ok (O.k (f := fun K => K.lookup 290) (by k_is)) (O.k (f := fun K => codeIn K _ _) (by k_is)) ?_ (by decide) (by decide) ?_
  · intro vs hv
    match vs, hv with
    | [], _ => rfl
  intro L
  refine TS_cons (TS_Assign (gc O (TL_cons ?_)))
  refine EV_Dict3S O.ok ?_
  intro d hd
  refine TP_cons ?_
  refine EV_str ?_
  refine EV_Tuple ?_
  refine TL_cons ?_
  refine EV_str ?_
  refine TL_cons ?_
  refine EV_List ?_
  refine TL_nil ⟨by simp, ?_⟩
  intro l1 h1
  refine TL_nil ⟨by simp, ?_⟩
  refine TP_cons ?_
  refine EV_str ?_
  refine EV_Tuple ?_
  refine TL_cons ?_
  refine EV_str ?_
  refine TL_cons ?_
  refine EV_List ?_
  refine TL_cons ?_
  refine EV_Tuple ?_
  refine TL_cons ?_
  refine EV_int ?_
  refine TL_cons ?_
  refine EV_bytes ?_
  refine TL_nil ⟨by simp, ?_⟩
  refine TL_cons ?_
  refine EV_Tuple ?_
  refine TL_cons ?_
  refine EV_int ?_
  refine TL_cons ?_
  refine EV_bytes ?_
  refine TL_nil ⟨by simp, ?_⟩
  refine TL_nil ⟨by simp, ?_⟩
  intro l2 h2
  refine TL_nil ⟨by simp, ?_⟩
  refine TP_cons ?_
  refine EV_str ?_
  refine EV_Tuple ?_
  refine TL_cons ?_
  refine EV_str ?_
  refine TL_cons ?_
  refine EV_List ?_
  refine TL_cons ?_
  refine EV_bytes ?_
  refine TL_cons ?_
  refine EV_bytes ?_
  refine TL_nil ⟨by simp, ?_⟩
  intro l3 h3
  refine TL_nil ⟨by simp, TP_nil ?_⟩
  have n1 : l1 ≠ d := fun q => by rw [q, upd_self] at h1; cases h1
  have n2 : l2 ≠ l1 := fun q => by rw [q, upd_self] at h2; cases h2
  have n2d : l2 ≠ d := fun q => by rw [q, upd_ne _ _ (Ne.symm n1), upd_self] at h2; cases h2
  have n3 : l3 ≠ l2 := fun q => by rw [q, upd_self] at h3; cases h3
  have n31 : l3 ≠ l1 := fun q => by rw [q, upd_ne _ _ (Ne.symm n2), upd_self] at h3; cases h3
  have n3d : l3 ≠ d := fun q => by rw [q, upd_ne _ _ (Ne.symm n2d), upd_ne _ _ (Ne.symm n1), upd_self] at h3; cases h3
  refine ⟨[("b!", .tup [.str "indexed", .obj l1]), ("ab", .tup [.str "relative", .obj l2]), ("a", .tup [.str "sequential", .obj l3])], rfl, keysND, ?_, fun ep => TL_nil ?_⟩
  · rw [upd_ne _ _ (Ne.symm n3d), upd_ne _ _ (Ne.symm n2d), upd_ne _ _ (Ne.symm n1), upd_self]
  have hE : Ex [] σ (upd (upd (upd (upd (upd σ d (.dictS [] 0)) l1 (.list [])) l2 (.list [.tup [.int 258, .bytes #[]], .tup [.int 1, .bytes #[120]]])) l3 (.list [.bytes #[104, 105], .bytes #[]])) d (.dictS [("b!", .tup [.str "indexed", .obj l1]), ("ab", .tup [.str "relative", .obj l2]), ("a", .tup [.str "sequential", .obj l3])] ep)) := by
    intro a o e _
    have na : a ≠ d := fun q => by rw [q, hd] at e; cases e
    rw [upd_ne _ _ na]
    exact (((Ex.new (S := []) hd).trans (Ex.new h1)).trans (Ex.new h2)).trans (Ex.new h3) a o e (by simp)
  refine (shelf_spec (n := n + 4) (fs := fsW) O ⟨_, ep, upd_self _ _ _, .cons ⟨l1, rfl, ?_⟩ (.cons ⟨l2, rfl, ?_⟩ (.cons ⟨l3, rfl, ?_⟩ .nil))⟩ lwfW).mono ?_ fun _ _ z => z
  · rw [upd_ne _ _ n1, upd_ne _ _ (Ne.symm n31), upd_ne _ _ (Ne.symm n2), upd_self]; rfl
  · rw [upd_ne _ _ n2d, upd_ne _ _ (Ne.symm n3), upd_self]; rfl
  · rw [upd_ne _ _ n3d, upd_self]; rfl
  rintro r σ₁ ⟨x, D, rfl, sh, hx, hD, e1⟩
  have e1' := hE.trans e1
  clear hE e1 hx hD h1 h2 h3 hd n1 n2 n2d n3 n31 n3d
  refine SN_local ?_
  show TS _ _ _ _ (execs (_ :: _) _) _ _ _
  refine TS_cons ?_
  refine TS_Assign ?_
  refine EV_const (v := .tup toldW) ?ce ?_
  case ce =>
    unfold toldW
    repeat' first | exact .int | exact .str | exact .bytes | exact .nil | refine .cons ?_ ?_ | refine .tup ?_ (by decide)
  refine SN_local ?_
  show TS _ _ _ _ (execs (_ :: _) _) _ _ _
  refine TS_cons (TS_Return (EV_BoolOp ?_))
  show TV _ _ _ _ (boolOp _ .And [eval _ _, eval _ _, eval _ _, eval _ _]) _ _ _
  refine EV_And2 (EV_Compare (gc O (TL_cons (EV_local rfl (TL_nil ((write_spec (n := n + 2) (P := fun _ => True) O sh wfW trivial).mono ?_ fun ax σ' z => absurd wgW z.1))))))
  rintro r σ₂ ⟨_, rfl, e2⟩
  rw [w1]
  refine EV_written O (eq_bb (OPT_bool ?_))
  rw [if_pos (by simp)]
  have sh2 := sh.ex0 e2
  refine EV_And2 ?_
  refine EV_Compare ?_
  refine EV_Method (gc O (TL_cons (EV_written O (TL_nil ((read_spec (n := n) O (b := octW) (by decide)).mono ?_ fun ax σ' z => ?_)))))
  rotate_left
  · obtain ⟨j, hj, _⟩ := z
    rw [w2] at hj; cases hj
  rintro r σ₃ ⟨x', D', fs', rfl, hr, sh', _, _, e3⟩
  rw [w2] at hr
  cases hr
  obtain ⟨d', es', ep', k1, k2, k3, k4⟩ := id sh'
  refine sh_meth O k1 k2 (CW_nil (Kp_K O.ok (O.k (f := fun K => keepIn K _) (by k_is))) (OPL_call ((told_spec (n := n + 7) O sh' wfR).mono ?_ fun _ _ z => z)))
  rintro r σ₄ ⟨rfl, e4⟩
  rw [w3]
  refine EV_local rfl ?_
  refine eq_tt (by decide) (by decide) (OPT_bool ?_)
  rw [if_pos rfl]
  have sh4 := (sh2.ex0 e3).ex0 e4
  refine EV_And2 ?_
  refine EV_Compare ?_
  obtain ⟨d1, es1, ep1, m1, m2, m3, m4⟩ := id sh4
  refine EV_Method (EV_local rfl (sh_meth O m1 m2 (CW_nil (Kp_K O.ok (O.k (f := fun K => keepIn K _) (by k_is))) (OPL_call ((told_spec (n := n + 7) O sh4 wfW).mono ?_ fun _ _ z => z)))))
  rintro r σ₅ ⟨rfl, e5⟩
  rw [w4]
  refine EV_local rfl ?_
  refine eq_tt (by decide) (by decide) (OPT_bool ?_)
  rw [if_pos rfl]
  refine EV_And1 ?_
  refine EV_Compare ?_
  refine EV_Method (gc O (TL_cons (EV_bytes (TL_nil ((read_spec (n := n) O (b := []) (by decide)).mono ?_ fun ax σ' z => ?_)))))
  rotate_left
  · obtain ⟨j, hj, _⟩ := z
    rw [w7] at hj; cases hj
  rintro r σ₆ ⟨x', D', fs', rfl, hr, sh', _, _, e6⟩
  rw [w7] at hr
  cases hr
  obtain ⟨d', es', ep', k1, k2, k3, k4⟩ := id sh'
  refine sh_meth O k1 k2 (CW_nil (Kp_K O.ok (O.k (f := fun K => keepIn K _) (by k_is))) (OPL_call ((told_spec (n := n + 7) O sh' ⟨by decide, by simp⟩).mono ?_ fun _ _ z => z)))
  rintro r σ₇ ⟨rfl, e7⟩
  rw [w8]
  refine EV_Tuple (TL_nil ⟨by simp, ?_⟩)
  exact eq_tt (by decide) (by decide) ⟨rfl, (((((e1'.trans e2).trans e3).trans e4).trans e5).trans e6).trans e7⟩
end
end Mine
end
section
open PySem PySem.W PyProof.Rows PySem.Calls PySem.Spec
set_option Elab.async false
set_option maxRecDepth 100000
namespace Mine
section
variable {K β : Type} [DecidableEq K]
theorem stB_new {es : List (K × β)} {k : K} {x : β} (h : k ∉ es.map (·.1)) : stB es k x = es ++ [(k, x)] := by
  unfold stB
  rw [if_neg]
  intro q
  obtain ⟨e, he, q⟩ := List.any_eq_true.mp q
  exact h (by rw [← of_decide_eq_true q]; exact List.mem_map_of_mem he)
theorem fold_new (g : K → β) : ∀ (ks : List K) (acc : List (K × β)), (acc.map (·.1) ++ ks).Nodup → ks.foldl (fun acc p => stB acc p (g p)) acc = acc ++ ks.map fun p => (p, g p)
  | [], acc, _ => by simp
  | k :: ks, acc, h => by
    have hk : k ∉ acc.map (·.1) := fun q => by
      have := (List.nodup_append.mp h).2.2 k q k (.head _)
      exact this rfl
    rw [List.foldl_cons, stB_new hk, fold_new g ks _ (by rw [List.map_append, List.append_assoc]; exact h)]
    simp
theorem fold_pairs : ∀ (rs : List (K × β)) (acc : List (K × β)), ((acc ++ rs).map (·.1)).Nodup → rs.foldl (fun es r => stB es r.1 r.2) acc = acc ++ rs
  | [], acc, _ => by simp
  | r :: rs, acc, h => by
    have hk : r.1 ∉ acc.map (·.1) := fun q => by
      rw [List.map_append] at h
      have := (List.nodup_append.mp h).2.2 r.1 q r.1 (.head _)
      exact this rfl
    rw [List.foldl_cons, stB_new hk, fold_pairs rs _ (by rw [List.append_assoc]; exact h), List.append_assoc]
    rfl
theorem vlB_nodup : ∀ {es : List (K × β)} {k : K} {x : β}, (es.map (·.1)).Nodup → (k, x) ∈ es → vlB es k = some x
  | [], _, _, _, h => by cases h
  | e :: es, k, x, hn, h => by
    rw [List.map_cons, List.nodup_cons] at hn
    unfold vlB
    rw [List.find?_cons]
    rcases List.mem_cons.mp h with rfl | h
    · simp
    · have hne : e.1 ≠ k := fun q => hn.1 (by rw [q]; exact List.mem_map_of_mem (f := (·.1)) h)
      have := vlB_nodup hn.2 h
      unfold vlB at this
      simp only [hne, decide_false]
      exact this
end
theorem asc_nodup {l : List Int} (h : l.Pairwise (· < ·)) : l.Nodup := h.imp fun q => by omega
theorem relOf_asc {rows : List (Int × Array UInt8)} (h : (rows.map (·.1)).Pairwise (· < ·)) : relOf rows = rows := by
  unfold relOf
  exact (fold_pairs rows [] (by simpa using asc_nodup h)).trans (by simp)
theorem relRows_asc {rows : List (Int × Array UInt8)} (h : (rows.map (·.1)).Pairwise (· < ·)) : relRows rows = rows := by
  have e : sortI (rows.map (·.1)) = rows.map (·.1) := (sortI_of (.refl _) (h.imp fun q => by omega)).symm
  unfold relRows
  rw [e, List.map_map]
  conv => rhs; rw [← List.map_id rows]
  apply List.map_congr_left
  intro r hr
  have := vlB_nodup (asc_nodup h) (show (r.1, r.2) ∈ rows from hr)
  simp only [Function.comp_apply, this]
  rfl
def paths7 : List Str := ["", "a", "a.b", "ab", ⟨(List.replicate 255 122).toArray⟩, "stock file", "~"]
structure DFs (fs : Files) : Prop where
  len : fs.length ≤ 4
  nd : (fs.map (·.1)).Nodup
  ok : ∀ e ∈ fs, e.1 ∈ paths7 ∧ e.2.1 ∈ kinds ∧ DrawnC e.2.1 e.2.2
theorem good7 : ∀ p ∈ paths7, goodPath p := by
  intro p hp
  simp only [paths7, List.mem_cons, List.not_mem_nil, or_false] at hp
  rcases hp with rfl | rfl | rfl | rfl | rfl | rfl | rfl
  · exact ⟨by decide, by decide⟩
  · exact ⟨by decide, by decide⟩
  · exact ⟨by decide, by decide⟩
  · exact ⟨by decide, by decide⟩
  · refine ⟨fun c hc => ?_, by simp⟩
    rw [List.toList_toArray] at hc
    rw [List.eq_of_mem_replicate hc]; omega
  · exact ⟨by decide, by decide⟩
  · exact ⟨by decide, by decide⟩
theorem fileOf_mem {fs : Files} (d : DFs fs) {p : Str} {f : Str × Cont} (h : (p, f) ∈ fs) : fileOf fs p = f := by
  unfold fileOf; rw [vlB_nodup d.nd h]; rfl
theorem toC_id {f : Str × Cont} (h : DrawnC f.1 f.2) : toC f = f := by
  obtain ⟨k, c⟩ := f
  cases c with
  | seq rows => rfl
  | rel rows => obtain ⟨_, _, h, _⟩ := h; show (k, Cont.rel (relOf rows)) = _; rw [relOf_asc h]
theorem copyF_id {f : Str × Cont} (h : DrawnC f.1 f.2) : copyF f = f := by
  obtain ⟨k, c⟩ := f
  cases c with
  | seq rows => rfl
  | rel rows =>
    obtain ⟨h0, _, h, _⟩ := h
    have h0' : k = "relative" := h0
    show ((PySem.Str.ofString "relative" : Str), Cont.rel (relOf (relRows rows))) = _
    rw [relRows_asc h, relOf_asc h, h0']
theorem shelf_id {fs : Files} (d : DFs fs) : shelfOf fs = fs := by
  unfold shelfOf
  rw [fold_new (fun p => toC (fileOf fs p)) _ [] (by simpa using d.nd), List.nil_append, List.map_map]
  conv => rhs; rw [← List.map_id fs]
  apply List.map_congr_left
  rintro ⟨p, f⟩ he
  simp only [Function.comp_apply, fileOf_mem d he, toC_id (d.ok _ he).2.2]
  rfl
def srt (fs : Files) : Files := (pathsOf fs).map fun p => (p, fileOf fs p)
theorem paths_perm (fs : Files) : (pathsOf fs).Perm (fs.map (·.1)) := sortS_perm _
theorem paths_nd {fs : Files} (d : DFs fs) : (pathsOf fs).Nodup := (paths_perm fs).nodup_iff.mpr d.nd
theorem at_path {fs : Files} (d : DFs fs) {p : Str} (h : p ∈ pathsOf fs) : (p, fileOf fs p) ∈ fs ∧ p ∈ paths7 ∧ (fileOf fs p).1 ∈ kinds ∧ DrawnC (fileOf fs p).1 (fileOf fs p).2 := by
  obtain ⟨⟨q, f⟩, he, e⟩ := List.mem_map.mp ((paths_perm fs).mem_iff.mp h)
  have e' : q = p := e
  subst e'
  rw [fileOf_mem d he]
  exact ⟨he, d.ok _ he⟩
theorem copy_srt {fs : Files} (d : DFs fs) : copyOf fs = srt fs := by
  unfold copyOf srt
  rw [fold_new (fun p => copyF (fileOf fs p)) _ [] (by simpa using paths_nd d), List.nil_append]
  apply List.map_congr_left
  intro p hp
  rw [copyF_id (at_path d hp).2.2.2]
theorem srt_keys (fs : Files) : (srt fs).map (·.1) = pathsOf fs := by
  unfold srt; rw [List.map_map]; exact (List.map_congr_left fun _ _ => rfl).trans (List.map_id _)
theorem srt_paths (fs : Files) : pathsOf (srt fs) = pathsOf fs := by
  conv => lhs; unfold pathsOf
  rw [srt_keys]
  exact (sortS_of (.refl _) (sortS_pw _)).symm
theorem srt_file {fs : Files} (d : DFs fs) {p : Str} (h : p ∈ pathsOf fs) : fileOf (srt fs) p = fileOf fs p := by
  have : vlB (srt fs) p = some (fileOf fs p) := vlB_nodup (by rw [srt_keys]; exact paths_nd d) (List.mem_map.mpr ⟨p, h, rfl⟩)
  conv => lhs; unfold fileOf
  rw [this]; rfl
def toldL (fs : Files) : List V := (pathsOf fs).map fun p => .tup [.str p, .str (fileOf fs p).1, .tup (LV (fileOf fs p).2)]
theorem tell_LV {f : Str × Cont} (h : DrawnC f.1 f.2) : tellRows f.2 = LV f.2 := by
  obtain ⟨k, c⟩ := f
  cases c with
  | seq rows => rfl
  | rel rows => obtain ⟨_, _, h, _⟩ := h; show tellRows (.rel rows) = _; rw [tellRows_rel, relRows_asc h]; rfl
theorem told_drawn {fs : Files} (d : DFs fs) : told fs = toldL fs := by
  unfold told toldL
  apply List.map_congr_left
  intro p hp
  rw [tell_LV (at_path d hp).2.2.2]
theorem told_srt {fs : Files} (d : DFs fs) : told (srt fs) = toldL fs := by
  rw [← told_drawn d]
  unfold told
  rw [srt_paths]
  apply List.map_congr_left
  intro p hp
  rw [srt_file d hp]
theorem wf_drawn {f : Str × Cont} (hk : f.1 ∈ kinds) (h : DrawnC f.1 f.2) : WF f ∧ LWF f := by
  obtain ⟨k, c⟩ := f
  cases c with
  | seq rows =>
    obtain ⟨h1, h2, h3⟩ := h
    have h3' : ∀ b ∈ rows, b.size ≤ 200 := fun b hb => Nat.le_trans (h3 b hb) (by decide)
    exact ⟨⟨hk, h1, Nat.le_trans h2 (by decide), h3'⟩, ⟨hk, h1, Nat.le_trans h2 (by decide), h3'⟩⟩
  | rel rows =>
    obtain ⟨h1, h2, h3, h4⟩ := h
    have h4' : ∀ p ∈ rows, 1 ≤ p.1 ∧ p.2.size ≤ 200 := fun p hp => ⟨(h4 p hp).1, Nat.le_trans (h4 p hp).2.2 (by decide)⟩
    exact ⟨⟨hk, h1, Nat.lt_of_le_of_lt h2 (by decide), h4'⟩, ⟨hk, h1, Nat.lt_of_le_of_lt h2 (by decide), h4'⟩⟩
theorem path_size {p : Str} (h : p ∈ paths7) : p.cps.size ≤ 1000 := Nat.le_of_lt (Nat.lt_trans (good7 p h).2 (by decide))
theorem wfs_drawn {fs : Files} (d : DFs fs) : WFs fs ∧ LWFs fs ∧ WFs (srt fs) := by
  have hl := d.len
  refine ⟨⟨by omega, fun e he => ⟨(wf_drawn (d.ok e he).2.1 (d.ok e he).2.2).1, path_size (d.ok e he).1⟩⟩, ⟨by omega, fun e he => ⟨(wf_drawn (d.ok e he).2.1 (d.ok e he).2.2).2, path_size (d.ok e he).1⟩⟩, ?_, fun e he => ?_⟩
  · unfold srt; rw [List.length_map, (paths_perm fs).length_eq, List.length_map]; omega
  · obtain ⟨p, hp, rfl⟩ := List.mem_map.mp he
    obtain ⟨_, h2, h3, h4⟩ := at_path d hp
    exact ⟨(wf_drawn h3 h4).1, path_size h2⟩
theorem good_drawn {fs : Files} (d : DFs fs) : LGood fs ∧ WrGood fs := by
  refine ⟨fun p hp => ?_, fun p hp => ?_⟩
  · obtain ⟨_, h2, h3, h4⟩ := at_path d hp
    refine ⟨good7 p h2, fun r hr y hy => ?_⟩
    rw [hr] at h4
    obtain ⟨_, _, _, h5⟩ := h4
    have := (h5 y hy).2.1
    omega
  · obtain ⟨_, h2, h3, h4⟩ := at_path d hp
    refine ⟨good7 p h2, ?_⟩
    generalize fileOf fs p = f at h4
    obtain ⟨k, c⟩ := f
    cases c with
    | seq rows => trivial
    | rel rows =>
      obtain ⟨_, _, h, h5⟩ := h4
      show ∀ r ∈ relRows rows, r.1 < 4294967296
      rw [relRows_asc h]
      intro r hr
      have := (h5 r hr).2.1
      omega
theorem laid_eq {fs : Files} (d : DFs fs) : writeB fs = laidB fs := by
  unfold writeB laidB
  rw [List.flatMap_def, List.flatMap_def]
  congr 1
  apply List.map_congr_left
  intro p hp
  have h4 := (at_path d hp).2.2.2
  unfold fileB lfileB
  rw [tell_LV h4]
  generalize fileOf fs p = f at h4
  obtain ⟨k, c⟩ := f
  cases c with
  | seq rows => rfl
  | rel rows => obtain ⟨_, _, h, _⟩ := h4; show letter k :: _ = _; unfold rowsB lrowsB; dsimp only; rw [relRows_asc h]
end Mine
end
section
open PySem PySem.W PyProof.Rows PySem.Calls PySem.Spec
set_option Elab.async false
set_option maxRecDepth 100000
namespace Mine
theorem num_go : ∀ (xs : List UInt8) (a : Nat), xs.foldl (fun a o => a * 256 + o.toNat) a = a * 256 ^ xs.length + num xs
  | [], a => by simp [num]
  | x :: xs, a => by
    have e : num (x :: xs) = x.toNat * 256 ^ xs.length + num xs := by
      show List.foldl _ (0 * 256 + x.toNat) xs = _
      rw [num_go xs]; simp
    rw [List.foldl_cons, num_go xs, e, List.length_cons, Nat.pow_succ, Nat.add_mul, Nat.mul_assoc a, Nat.mul_comm 256, Nat.add_assoc]
theorem num_cons (x : UInt8) (xs : List UInt8) : num (x :: xs) = x.toNat * 256 ^ xs.length + num xs := by
  show List.foldl _ (0 * 256 + x.toNat) xs = _
  rw [num_go xs]; simp
theorem num_be : ∀ (w c : Nat), num (be w c) = c % 256 ^ w
  | 0, c => by simp [be, num, Nat.mod_one]
  | w + 1, c => by
    rw [be, num_cons, be_length, num_be w c, Nat.pow_succ, Nat.mod_mul]
    have : ((c / 256 ^ w % 256).toUInt8).toNat = c / 256 ^ w % 256 := by
      show (c / 256 ^ w % 256) % 256 = _
      omega
    rw [this, Nat.mul_comm]; omega
structure At (b : List UInt8) (i : Nat) (r : List UInt8) : Prop where
  le : i ≤ b.length
  drop : b.drop i = r
theorem At.len {b r : List UInt8} {i : Nat} (h : At b i r) : r.length = b.length - i := by rw [← h.drop, List.length_drop]
theorem take_at {b xs r : List UInt8} {i : Nat} (h : At b i (xs ++ r)) : takeP b i xs.length = .ok (xs, i + xs.length) ∧ At b (i + xs.length) r := by
  have hl := h.len
  have hle := h.le
  rw [List.length_append] at hl
  refine ⟨?_, by omega, ?_⟩
  · unfold takeP
    rw [if_neg (by omega), h.drop]; simp
  · rw [← List.drop_drop, h.drop]; simp
theorem count_at {b r : List UInt8} {i w c : Nat} (h : At b i (be w c ++ r)) (hc : c < 256 ^ w) : countP b i w = .ok (c, i + w) ∧ At b (i + w) r := by
  have hl := be_length w c
  obtain ⟨h1, h2⟩ := take_at h
  rw [hl] at h1 h2
  refine ⟨?_, h2⟩
  rw [countP_eq, h1]
  show Except.ok (num (be w c), i + w) = _
  rw [num_be, Nat.mod_eq_of_lt hc]
theorem seq_at {b r : List UInt8} {i : Nat} {x : Array UInt8} (h : At b i (rowB x ++ r)) (hx : x.size < 65536) : seqRowP b i = .ok (x.toList, i + (rowB x).length) ∧ At b (i + (rowB x).length) r := by
  unfold rowB at h
  rw [List.append_assoc] at h
  obtain ⟨h1, h2⟩ := count_at h hx
  obtain ⟨h3, h4⟩ := take_at h2
  have e : i + 2 + x.toList.length = i + (rowB x).length := by unfold rowB; rw [List.length_append, be_length]; omega
  rw [e] at h3 h4
  refine ⟨?_, h4⟩
  unfold seqRowP
  rw [h1]
  show takeP b (i + 2) x.size = _
  rw [← h3]; simp
theorem rel_at {b r : List UInt8} {i lo : Nat} {k : Nat} {x : Array UInt8} (h : At b i ((be 4 k ++ rowB x) ++ r)) (hk : k < 4294967296) (hlo : lo < k) (hx : x.size < 65536) :
    relRowP b i lo = .ok ((k, x.toList), i + (be 4 k ++ rowB x).length) ∧ At b (i + (be 4 k ++ rowB x).length) r := by
  rw [List.append_assoc] at h
  obtain ⟨h1, h2⟩ := count_at h hk
  obtain ⟨h3, h4⟩ := seq_at h2 hx
  have e : i + 4 + (rowB x).length = i + (be 4 k ++ rowB x).length := by rw [List.length_append, be_length]; omega
  rw [e] at h3 h4
  refine ⟨?_, h4⟩
  unfold relRowP
  rw [h1]
  show (if k ≤ lo then _ else bindP (seqRowP b (i + 4)) _) = _
  rw [if_neg (by omega), h3]; rfl
theorem rows_seq_at {b : List UInt8} : ∀ (rows : List (Array UInt8)) {r : List UInt8} {i lo : Nat}, At b i (rows.flatMap rowB ++ r) → (∀ x ∈ rows, x.size < 65536) →
    rowsG false b rows.length i lo = .ok (rows.map fun x => (0, x.toList), i + (rows.flatMap rowB).length) ∧ At b (i + (rows.flatMap rowB).length) r
  | [], r, i, lo, h, _ => ⟨rfl, h⟩
  | x :: rows, r, i, lo, h, hx => by
    rw [List.flatMap_cons, List.append_assoc] at h
    obtain ⟨h1, h2⟩ := seq_at h (hx x (.head _))
    obtain ⟨h3, h4⟩ := rows_seq_at rows (lo := 0) h2 fun y hy => hx y (.tail _ hy)
    have e : i + (rowB x).length + (rows.flatMap rowB).length = i + ((x :: rows).flatMap rowB).length := by rw [List.flatMap_cons, List.length_append]; omega
    rw [e] at h3 h4
    refine ⟨?_, h4⟩
    show bindP (bindP (seqRowP b i) fun xs i' => .ok ((0, xs), i')) _ = _
    rw [h1]
    show bindP (rowsG false b rows.length (i + (rowB x).length) 0) _ = _
    rw [h3]; rfl
theorem rows_rel_at {b : List UInt8} : ∀ (rows : List (Int × Array UInt8)) {r : List UInt8} {i lo : Nat}, At b i ((rows.flatMap fun r => be 4 r.1.toNat ++ rowB r.2) ++ r) → (∀ x ∈ rows, (lo : Int) < x.1 ∧ x.1 < 4294967296 ∧ x.2.size < 65536) → (rows.map (·.1)).Pairwise (· < ·) →
    rowsG true b rows.length i lo = .ok (rows.map fun x => (x.1.toNat, x.2.toList), i + (rows.flatMap fun r => be 4 r.1.toNat ++ rowB r.2).length) ∧ At b (i + (rows.flatMap fun r => be 4 r.1.toNat ++ rowB r.2).length) r
  | [], r, i, lo, h, _, _ => ⟨rfl, h⟩
  | x :: rows, r, i, lo, h, hx, ha => by
    rw [List.map_cons, List.pairwise_cons] at ha
    rw [List.flatMap_cons, List.append_assoc] at h
    obtain ⟨q1, q2, q3⟩ := hx x (.head _)
    obtain ⟨h1, h2⟩ := rel_at (lo := lo) h (by omega) (by omega) q3
    obtain ⟨h3, h4⟩ := rows_rel_at rows (lo := x.1.toNat) h2 (fun y hy => by
      have h7 : x.1 < y.1 := ha.1 y.1 (List.mem_map_of_mem hy)
      exact ⟨by omega, (hx y (.tail _ hy)).2⟩) ha.2
    have e : i + (be 4 x.1.toNat ++ rowB x.2).length + (rows.flatMap fun r => be 4 r.1.toNat ++ rowB r.2).length = i + ((x :: rows).flatMap fun r => be 4 r.1.toNat ++ rowB r.2).length := by simp only [List.flatMap_cons, List.length_append]; omega
    rw [e] at h3 h4
    refine ⟨?_, h4⟩
    show bindP (relRowP b i lo) _ = _
    rw [h1]
    show bindP (rowsG true b rows.length (i + (be 4 x.1.toNat ++ rowB x.2).length) x.1.toNat) _ = _
    rw [h3]; rfl
theorem cont_at {b r : List UInt8} {i : Nat} {f : Str × Cont} (h : DrawnC f.1 f.2) (a : At b i (lrowsB f.2 ++ r)) : ∃ rs, rowsG (isRel f.1) b (LV f.2).length i 0 = .ok (rs, i + (lrowsB f.2).length) ∧ At b (i + (lrowsB f.2).length) r ∧ contG (isRel f.1) rs = f.2 := by
  obtain ⟨k, c⟩ := f
  cases c with
  | seq rows =>
    obtain ⟨h1, _, h3⟩ := h
    have hr : isRel k = false := by simp [isRel]; exact h1
    have hl : (LV (.seq rows)).length = rows.length := by simp [LV]
    obtain ⟨e1, e2⟩ := rows_seq_at rows (lo := 0) a fun x hx => Nat.lt_of_le_of_lt (h3 x hx) (by decide)
    refine ⟨_, by rw [hl]; show rowsG (isRel k) _ _ _ _ = _; rw [hr]; exact e1, e2, ?_⟩
    show contG (isRel k) _ = _
    rw [hr]
    show Cont.seq _ = _
    rw [List.map_map]
    congr 1
    exact (List.map_congr_left fun x _ => rfl).trans (List.map_id _)
  | rel rows =>
    obtain ⟨h1, _, h3, h4⟩ := h
    have hr : isRel k = true := by simp [isRel]; exact h1
    have hl : (LV (.rel rows)).length = rows.length := by simp [LV]
    obtain ⟨e1, e2⟩ := rows_rel_at rows (lo := 0) a (fun x hx => by have := h4 x hx; exact ⟨by omega, by omega, by omega⟩) h3
    refine ⟨_, by rw [hl]; show rowsG (isRel k) _ _ _ _ = _; rw [hr]; exact e1, e2, ?_⟩
    show contG (isRel k) _ = _
    rw [hr]
    have e : relRowsOf (rows.map fun x => (x.1.toNat, x.2.toList)) = rows := by
      unfold relRowsOf
      rw [List.map_map]
      conv => rhs; rw [← List.map_id rows]
      apply List.map_congr_left
      intro x hx
      have := (h4 x hx).1
      show ((x.1.toNat : Int), x.2.toList.toArray) = x
      rw [Int.toNat_of_nonneg (by omega)]
    show Cont.rel (relOf (relRowsOf _)) = _
    rw [e, relOf_asc h3]
theorem good_bytes {p : Str} (h : goodPath p) : (p.cps.toList.map fun c => c.toUInt8).findIdx? badSign = none ∧ strOf (p.cps.toList.map fun c => c.toUInt8) = p := by
  have hb : ∀ c ∈ p.cps.toList, (c.toUInt8).toNat = c := fun c hc => by
    have := h.1 c hc
    show c % 256 = c
    omega
  refine ⟨?_, ?_⟩
  · rw [List.findIdx?_eq_none_iff]
    intro x hx
    obtain ⟨c, hc, rfl⟩ := List.mem_map.mp hx
    unfold badSign
    rw [hb c hc]
    have := h.1 c hc
    simp; omega
  · unfold strOf
    rw [List.map_map]
    have : p.cps.toList.map (UInt8.toNat ∘ fun c => c.toUInt8) = p.cps.toList := (List.map_congr_left fun c hc => hb c hc).trans (List.map_id _)
    rw [this]
theorem kindOf_letter : ∀ k ∈ kinds, kindOf (letter k) = some k := by
  intro k hk
  simp only [kinds, List.mem_cons, List.not_mem_nil, or_false] at hk
  rcases hk with rfl | rfl | rfl <;> decide
theorem file_at {b r : List UInt8} {i : Nat} {p : Str} {f : Str × Cont} {ahead : Option Str} (hp : goodPath p) (hk : f.1 ∈ kinds) (h : DrawnC f.1 f.2) (ho : aheadOk ahead p = true) (a : At b i (lfileB p f ++ r)) :
    fileP b i ahead = .ok ((p, f), i + (lfileB p f).length) ∧ At b (i + (lfileB p f).length) r := by
  have a' : At b i ([letter f.1] ++ (be 1 p.cps.size ++ (p.cps.toList.map (fun c => c.toUInt8) ++ (be 4 (LV f.2).length ++ (lrowsB f.2 ++ r))))) := by
    have e : lfileB p f ++ r = [letter f.1] ++ (be 1 p.cps.size ++ (p.cps.toList.map (fun c => c.toUInt8) ++ (be 4 (LV f.2).length ++ (lrowsB f.2 ++ r)))) := by unfold lfileB pathBytes; simp
    rw [← e]; exact a
  obtain ⟨a1, a2⟩ := take_at a'
  obtain ⟨a3, a4⟩ := count_at a2 (by have := hp.2; omega)
  obtain ⟨a5, a6⟩ := take_at a4
  rw [List.length_map, show p.cps.toList.length = p.cps.size from Array.length_toList] at a5 a6
  have hl : (LV f.2).length < 256 ^ 4 := Nat.lt_of_le_of_lt (LV_len (wf_drawn hk h).2) (by decide)
  obtain ⟨a7, a8⟩ := count_at a6 hl
  obtain ⟨rs, a9, a10, a11⟩ := cont_at h a8
  obtain ⟨g1, g2⟩ := good_bytes hp
  have hlen : i + [letter f.1].length + 1 + p.cps.size + 4 + (lrowsB f.2).length = i + (lfileB p f).length := by
    unfold lfileB pathBytes
    simp [be_length]; omega
  rw [hlen] at a9 a10
  refine ⟨?_, a10⟩
  have e1 : kindP b i = .ok (f.1, i + [letter f.1].length) := by
    unfold kindP
    rw [show (1 : Nat) = [letter f.1].length from rfl, a1]
    show (match kindOf (letter f.1) with | some k => _ | none => _) = _
    rw [kindOf_letter _ hk]
  have e2 : pathP b (i + [letter f.1].length) ahead = .ok (p, i + [letter f.1].length + 1 + p.cps.size) := by
    unfold pathP
    rw [a3]
    show bindP (takeP b (i + [letter f.1].length + 1) p.cps.size) _ = _
    rw [a5]
    show (match (p.cps.toList.map fun c => c.toUInt8).findIdx? badSign with | some k => _ | none => _) = _
    rw [g1]
    dsimp only
    rw [g2, ho]; rfl
  unfold fileP
  rw [e1]
  show bindP (pathP b (i + [letter f.1].length) ahead) _ = _
  rw [e2]
  show bindP (countP b (i + [letter f.1].length + 1 + p.cps.size) 4) _ = _
  rw [a7]
  show bindP (rowsG (isRel f.1) b (LV f.2).length (i + [letter f.1].length + 1 + p.cps.size + 4) 0) _ = _
  rw [a9]
  show Except.ok ((p, (f.1, contG (isRel f.1) rs)), _) = _
  rw [a11]
theorem read_at {b : List UInt8} : ∀ (l : Files) {fuel i : Nat} {ahead : Option Str} {acc : Files}, At b i (l.flatMap fun e => lfileB e.1 e.2) → l.length < fuel → (∀ e ∈ l, goodPath e.1 ∧ e.2.1 ∈ kinds ∧ DrawnC e.2.1 e.2.2) →
    (∀ e ∈ l, aheadOk ahead e.1 = true) → (l.map (·.1)).Pairwise (fun a b => strLt a b = true) → ((acc ++ l).map (·.1)).Nodup → readP b fuel i ahead acc = .ok (acc ++ l)
  | [], 0, _, _, _, _, h, _, _, _, _ => by simp at h
  | _ :: _, 0, _, _, _, _, h, _, _, _, _ => by simp at h
  | [], fuel + 1, i, ahead, acc, a, _, _, _, _, _ => by
    have := a.len
    have := a.le
    simp at *
    unfold readP
    rw [if_neg (by omega)]
  | e :: l, fuel + 1, i, ahead, acc, a, hf, hg, hh, hs, hn => by
    rw [List.flatMap_cons] at a
    have hl := a.len
    rw [List.length_append] at hl
    have hpos : 0 < (lfileB e.1 e.2).length := by unfold lfileB; simp
    obtain ⟨g1, g2, g3⟩ := hg e (.head _)
    obtain ⟨h1, h2⟩ := file_at g1 g2 g3 (hh e (.head _)) a
    rw [List.map_cons, List.pairwise_cons] at hs
    unfold readP
    rw [if_pos (by omega), h1]
    dsimp only
    have hk : e.1 ∉ acc.map (·.1) := fun q => by
      rw [List.map_append] at hn
      exact (List.nodup_append.mp hn).2.2 e.1 q e.1 (.head _) rfl
    rw [stB_new hk]
    have := read_at l (fuel := fuel) (i := i + (lfileB e.1 e.2).length) (ahead := some e.1) (acc := acc ++ [(e.1, e.2)]) h2 (by simp at hf; omega) (fun y hy => hg y (.tail _ hy)) (fun y hy => hs.1 y.1 (List.mem_map_of_mem hy)) hs.2 (by rw [List.append_assoc]; exact hn)
    rw [this, List.append_assoc]; rfl
theorem paths_lt {fs : Files} (d : DFs fs) : (pathsOf fs).Pairwise (fun a b => strLt a b = true) := by
  have hnd : (sortS (fs.map (·.1))).Pairwise (fun a b => a ≠ b) := paths_nd d
  have hpw : (sortS (fs.map (·.1))).Pairwise (fun a b => sle a b = true) := sortS_pw _
  refine (hpw.and hnd).imp fun {a b} ⟨h1, h2⟩ => ?_
  cases h : strLt a b with
  | true => rfl
  | false => exact absurd (sle_anti a b h1 (by unfold sle; rw [h]; rfl)) h2
theorem read_laid {fs : Files} (d : DFs fs) : readAll (laidB fs) = .ok (srt fs) := by
  have e : laidB fs = (srt fs).flatMap fun e => lfileB e.1 e.2 := by
    unfold laidB srt
    rw [List.flatMap_map]
  have hok : ∀ e ∈ srt fs, goodPath e.1 ∧ e.2.1 ∈ kinds ∧ DrawnC e.2.1 e.2.2 := fun e he => by
    obtain ⟨p, hp, rfl⟩ := List.mem_map.mp he
    obtain ⟨_, h2, h3, h4⟩ := at_path d hp
    exact ⟨good7 p h2, h3, h4⟩
  have hlen : (srt fs).length ≤ (laidB fs).length := by
    rw [e]
    clear e
    generalize srt fs = l
    induction l with
    | nil => simp
    | cons x l ih => rw [List.flatMap_cons, List.length_append, List.length_cons]; have : 0 < (lfileB x.1 x.2).length := by unfold lfileB; simp
                     omega
  unfold readAll
  have := read_at (b := laidB fs) (srt fs) (fuel := (laidB fs).length + 1) (i := 0) (ahead := none) (acc := []) ⟨Nat.zero_le _, by rw [List.drop_zero]; exact e⟩ (by omega) hok (fun _ _ => rfl) (by rw [srt_keys]; exact paths_lt d) (by rw [List.nil_append, srt_keys]; exact paths_nd d)
  rw [this]; rfl
end Mine
end
section
open PySem PySem.W PyProof.Rows PySem.Calls PySem.Spec
set_option Elab.async false
set_option maxRecDepth 100000
namespace Mine
section
variable {K β : Type} [DecidableEq K]
theorem stB_keys {es : List (K × β)} {k : K} {x : β} : (stB es k x).map (·.1) = if k ∈ es.map (·.1) then es.map (·.1) else es.map (·.1) ++ [k] := by
  by_cases h : k ∈ es.map (·.1)
  · rw [if_pos h]
    unfold stB
    obtain ⟨e, he, q⟩ := List.mem_map.mp h
    rw [if_pos (List.any_eq_true.mpr ⟨e, he, by simpa using q⟩), List.map_map]
    apply List.map_congr_left
    intro e _
    simp only [Function.comp_apply]
    split <;> rfl
  · rw [if_neg h, stB_new h, List.map_append]; rfl
theorem stB_mem {es : List (K × β)} {k : K} {x : β} {e : K × β} (h : e ∈ stB es k x) : e = (k, x) ∨ e ∈ es := by
  unfold stB at h
  split at h
  · obtain ⟨y, hy, rfl⟩ := List.mem_map.mp h
    split
    · rename_i q; left; rw [← q]
    · exact .inr hy
  · rcases List.mem_append.mp h with h | h
    · exact .inr h
    · exact .inl (List.mem_singleton.mp h)
theorem vlB_stB {es : List (K × β)} {k q : K} {x : β} (h : k ∈ es.map (·.1)) : vlB (stB es k x) q = if q = k then some x else vlB es q := by
  unfold stB
  obtain ⟨e, he, hk⟩ := List.mem_map.mp h
  rw [if_pos (List.any_eq_true.mpr ⟨e, he, by simpa using hk⟩)]
  clear he hk e
  unfold vlB
  induction es with
  | nil => simp at h
  | cons e es ih =>
    rw [List.map_cons, List.find?_cons, List.find?_cons]
    by_cases e1 : e.1 = k
    · rw [if_pos e1]
      by_cases e2 : q = k
      · subst e2; simp [e1]
      · have e3 : ¬ e.1 = q := fun z => e2 (z.symm.trans e1)
        simp only [e3, decide_false, if_neg e2]
        by_cases hm : k ∈ es.map (·.1)
        · rw [ih hm, if_neg e2]
        · have : es.map (fun kv => if kv.1 = k then (kv.1, x) else kv) = es := by
            conv => rhs; rw [← List.map_id es]
            apply List.map_congr_left
            intro y hy
            rw [if_neg (fun z => hm (by rw [← z]; exact List.mem_map_of_mem hy))]; rfl
          rw [this]
    · rw [if_neg e1]
      by_cases e4 : e.1 = q
      · have e2 : ¬ q = k := fun z => e1 (e4.trans z)
        simp [e4, e2]
      · simp only [e4, decide_false]
        rw [List.map_cons, List.mem_cons] at h
        exact ih (h.resolve_left fun z => e1 z.symm)
end
theorem DFs.put {fs : Files} (d : DFs fs) {p : Str} {f : Str × Cont} (hl : fs.length ≤ 3) (hp : p ∈ paths7) (hk : f.1 ∈ kinds) (hc : DrawnC f.1 f.2) : DFs (stB fs p f) := by
  refine ⟨by have := stB_length fs p f; omega, ?_, fun e he => ?_⟩
  · rw [stB_keys]
    split
    · exact d.nd
    · rename_i h
      exact List.nodup_append.mpr ⟨d.nd, by simp, fun a ha b hb q => h (by rw [List.mem_singleton] at hb; rw [← hb, ← q]; exact ha)⟩
  · rcases stB_mem he with rfl | he
    · exact ⟨hp, hk, hc⟩
    · exact d.ok e he
theorem lfile_len {p : Str} {f : Str × Cont} (hp : goodPath p) (h : DrawnC f.1 f.2) : (lfileB p f).length ≤ 400 := by
  have h1 := pathBytes_len hp
  have h2 : (lrowsB f.2).length ≤ 36 := by
    obtain ⟨k, c⟩ := f
    cases c with
    | seq rows =>
      obtain ⟨_, hl, hb⟩ := h
      have := flat_len rowB 5 rows fun b hb' => by unfold rowB; rw [List.length_append, be_length]; have := hb b hb'; simp; omega
      show (rows.flatMap rowB).length ≤ 36
      omega
    | rel rows =>
      obtain ⟨_, hl, _, hb⟩ := h
      have := flat_len (fun r : Int × Array UInt8 => be 4 r.1.toNat ++ rowB r.2) 9 rows fun b hb' => by unfold rowB; simp only [List.length_append, be_length]; have := (hb b hb').2.2; simp; omega
      show (rows.flatMap fun r => be 4 r.1.toNat ++ rowB r.2).length ≤ 36
      omega
  unfold lfileB
  simp only [List.length_cons, List.length_append, be_length]; omega
theorem laid_len {fs : Files} (d : DFs fs) : (laidB fs).length ≤ 1600 := by
  have := flat_len (fun p => lfileB p (fileOf fs p)) 400 (pathsOf fs) fun p hp => lfile_len (good7 p (at_path d hp).2.1) (at_path d hp).2.2.2
  have hl : (pathsOf fs).length ≤ 4 := by rw [(paths_perm fs).length_eq, List.length_map]; exact d.len
  show ((pathsOf fs).flatMap fun p => lfileB p (fileOf fs p)).length ≤ 1600
  omega
theorem eqss_of {l : List V} (h : ∀ x ∈ l, x.eqs = true) : V.eqss l = true := by
  induction l with
  | nil => rfl
  | cons x l ih => unfold V.eqss; rw [h x (.head _), ih fun y hy => h y (.tail _ hy)]; rfl
theorem depths_of {l : List V} {k : Nat} (h : ∀ x ∈ l, x.depth ≤ k) : V.depths l ≤ k := by
  induction l with
  | nil => exact Nat.zero_le _
  | cons x l ih => unfold V.depths; exact Nat.max_le.mpr ⟨h x (.head _), ih fun y hy => h y (.tail _ hy)⟩
theorem LV_eq (c : Cont) : V.eqss (LV c) = true ∧ V.depths (LV c) ≤ 1 := by
  refine ⟨eqss_of fun x hx => ?_, depths_of fun x hx => ?_⟩ <;> cases c <;> (obtain ⟨b, _, rfl⟩ := List.mem_map.mp hx; first | rfl | decide | (simp [V.depth, V.depths]))
theorem toldL_eq (fs : Files) : V.eqss (toldL fs) = true ∧ V.depths (toldL fs) ≤ 100 := by
  refine ⟨eqss_of fun x hx => ?_, depths_of fun x hx => ?_⟩
  · obtain ⟨p, _, rfl⟩ := List.mem_map.mp hx
    simp [V.eqs, V.eqss, (LV_eq (fileOf fs p).2).1]
  · obtain ⟨p, _, rfl⟩ := List.mem_map.mp hx
    have := (LV_eq (fileOf fs p).2).2
    simp [V.depth, V.depths]; omega
def newC : Str × Cont := ("sequential", .seq [#[110, 101, 119]])
def begun (fs : Files) (ks : List Str) : Files := ks.foldl (fun acc p => stB acc p newC) fs
theorem begun_keys : ∀ (ks : List Str) (fs : Files), (∀ k ∈ ks, k ∈ fs.map (·.1)) → (begun fs ks).map (·.1) = fs.map (·.1)
  | [], fs, _ => rfl
  | k :: ks, fs, h => by
    have hk := h k (.head _)
    have e : (stB fs k newC).map (·.1) = fs.map (·.1) := by rw [stB_keys, if_pos hk]
    show (begun (stB fs k newC) ks).map (·.1) = _
    rw [begun_keys ks _ (fun q hq => by rw [e]; exact h q (.tail _ hq)), e]
theorem begun_at : ∀ (ks : List Str) (fs : Files), (∀ k ∈ ks, k ∈ fs.map (·.1)) → ∀ q, vlB (begun fs ks) q = if q ∈ ks then some newC else vlB fs q
  | [], fs, _, q => by simp [begun]
  | k :: ks, fs, h, q => by
    have hk := h k (.head _)
    have e : (stB fs k newC).map (·.1) = fs.map (·.1) := by rw [stB_keys, if_pos hk]
    show vlB (begun (stB fs k newC) ks) q = _
    rw [begun_at ks _ (fun q hq => by rw [e]; exact h q (.tail _ hq)), vlB_stB hk]
    by_cases h1 : q ∈ ks
    · simp [h1]
    · by_cases h2 : q = k
      · simp [h2]
      · simp [h1, h2]
theorem told_begun (fs : Files) : told (begun fs (fs.map (·.1))) = (pathsOf fs).map fun p => .tup [.str p, .str "sequential", .tup [.bytes #[110, 101, 119]]] := by
  have hp : pathsOf (begun fs (fs.map (·.1))) = pathsOf fs := by unfold pathsOf; rw [begun_keys _ _ fun _ h => h]
  unfold told
  rw [hp]
  apply List.map_congr_left
  intro p h
  have hm := (paths_perm fs).mem_iff.mp h
  have : fileOf (begun fs (fs.map (·.1))) p = newC := by unfold fileOf; rw [begun_at _ _ (fun _ h => h), if_pos hm]; rfl
  rw [this]; rfl
theorem begun_len (fs : Files) (i : Nat) : (begun fs ((fs.map (·.1)).take i)).length = fs.length := by
  have := congrArg List.length (begun_keys ((fs.map (·.1)).take i) fs fun k hk => List.mem_of_mem_take hk)
  simpa using this
theorem wf_begun {fs : Files} (d : DFs fs) : WFs (begun fs (fs.map (·.1))) := by
  have hk := begun_keys (fs.map (·.1)) fs fun _ h => h
  have hl := d.len
  refine ⟨by have := congrArg List.length hk; simp at this; omega, fun e he => ?_⟩
  have hm : e.1 ∈ fs.map (·.1) := by rw [← hk]; exact List.mem_map_of_mem he
  have hv := begun_at (fs.map (·.1)) fs (fun _ h => h) e.1
  rw [if_pos hm, vlB_nodup (by rw [hk]; exact d.nd) (show (e.1, e.2) ∈ _ from he)] at hv
  obtain ⟨⟨q, f⟩, hq, eq⟩ := List.mem_map.mp hm
  refine ⟨?_, by rw [← eq]; exact path_size (d.ok _ hq).1⟩
  rw [Option.some.inj hv]
  exact ⟨by decide, by decide, by decide, by decide⟩
end Mine
end
section
open PySem PySem.W PyProof.Rows PySem.Calls PySem.Spec
set_option Elab.async false
set_option maxRecDepth 100000
set_option maxHeartbeats 0
namespace Mine
abbrev fsA : Files := [("a", ("sequential", .seq [#[120]]))]
theorem fsA_eq : stB ([] : Files) "a" ("sequential", .seq [#[120]]) = fsA := by kernel_rfl
theorem wfA : WFs fsA := by
  refine ⟨by decide, fun p hp => ?_⟩
  simp only [List.mem_cons, List.not_mem_nil, or_false] at hp
  subst hp
  exact ⟨⟨by decide, by decide, by decide, by decide⟩, by decide⟩
theorem SHx.out {σ σ' : Store} {S : List Addr} {x D : Addr} {fs : Files} (s : SHx σ x D fs) (h : Ex S σ σ') (hS : ∀ c ∈ S, (∃ i : Int, σ c = some (.list [.int i])) ∨ (∃ o, σ c = some (.raw o)) ∨ ∃ v, σ c = some (.cell v)) : SHx σ' x D fs := by
  obtain ⟨d, es, ep, h1, h2, h3, h4⟩ := s
  have no : ∀ {a : Addr} {o : AO}, σ a = some o → (∀ i, o ≠ .list [.int i]) → (∀ r, o ≠ .raw r) → (∀ v, o ≠ .cell v) → a ∉ S := fun {a o} e n1 n2 n3 q => by
    rcases hS a q with ⟨i, z⟩ | ⟨r, z⟩ | ⟨v, z⟩
    · rw [e] at z; exact n1 i (Option.some.inj z)
    · rw [e] at z; exact n2 r (Option.some.inj z)
    · rw [e] at z; exact n3 v (Option.some.inj z)
  refine ⟨d, es, ep, h _ _ h1 (no h1 (by simp) (by simp) (by simp)), h _ _ h2 (no h2 (by simp) (by simp) (by simp)), h _ _ h3 (no h3 (by simp) (by simp) (by simp)), ?_⟩
  clear h1 h2 h3
  induction h4 with
  | nil => exact .nil
  | cons a _ ih =>
    refine .cons ?_ ih
    obtain ⟨c, e, ca⟩ := a
    refine ⟨c, e, ?_⟩
    rename_i f _ _ _
    obtain ⟨fk, fc⟩ := f
    cases fc with
    | seq rows =>
      have e' : σ c = some (.list (rows.map .bytes)) := ca
      refine h _ _ e' (no e' (fun i q => ?_) (by simp) (by simp))
      injection q with q
      cases rows with
      | nil => cases q
      | cons b r => injection q with q _; cases q
    | rel es =>
      obtain ⟨ep, e'⟩ := ca
      exact ⟨ep, h _ _ e' (no e' (by simp) (by simp) (by simp))⟩
structure BI (f Lp P L x D : Addr) (T : Nat → Store → Prop) (σ σ' : Store) (k : Nat) (fs : Files) (ps : Array Value) : Prop where
  t : T k σ'
  c1 : σ' (L + 1) = some (.cell (some (.obj f)))
  c3 : σ' (L + 3) = some (.cell (some (.obj x)))
  sh : SHx σ' x D fs
  p : σ' P = some (.raw (tabObj ps))
  e : Ex [Lp, P] σ σ'
section
variable {C : Cx} {σ : Store} {f Lp P L x D : Addr} {Dl : List Addr} {T : Nat → Store → Prop} {σ' σ'' : Store} {k : Nat} {fs : Files} {ps : Array Value}
theorem BI.step (tk : Taker C f Lp Dl T) (b : BI f Lp P L x D T σ σ' k fs ps) (h : Ex [] σ' σ'') : BI f Lp P L x D T σ σ'' k fs ps :=
  ⟨tk.ex b.t h, h.get b.c1, h.get b.c3, b.sh.ex0 h, h.get b.p, b.e.trans (h.mono (by simp))⟩
theorem BI.draw (tk : Taker C f Lp Dl T) (b : BI f Lp P L x D T σ σ' k fs ps) (t : T (k + 1) σ'') (h : Ex [Lp] σ' σ'') : BI f Lp P L x D T σ σ'' (k + 1) fs ps := by
  obtain ⟨i, hi⟩ := tk.at_ b.t
  have no : ∀ {a : Addr} {o : AO}, σ' a = some o → (∀ i, o ≠ .list [.int i]) → σ'' a = some o := fun {a o} e n => h a o e fun q => by
    rw [List.mem_singleton.mp q, hi] at e; exact n i (Option.some.inj e).symm
  exact ⟨t, no b.c1 (by simp), no b.c3 (by simp), b.sh.out h fun c hc => .inl ⟨i, by rw [List.mem_singleton.mp hc]; exact hi⟩, no b.p (by simp), b.e.trans (h.mono (by simp))⟩
theorem BI.tab (tk : Taker C f Lp Dl T) (b : BI f Lp P L x D T σ σ' k fs ps) (hPD : P ∉ Dl) {ps' : Array Value} (hp : σ'' P = some (.raw (tabObj ps'))) (h : Ex [P] σ' σ'') : BI f Lp P L x D T σ σ'' k fs ps' := by
  have hq := b.p
  have no : ∀ {a : Addr} {o : AO}, σ' a = some o → (∀ r, o ≠ .raw r) → σ'' a = some o := fun {a o} e n => h a o e fun q => by
    rw [List.mem_singleton.mp q, hq] at e; exact n _ (Option.some.inj e).symm
  exact ⟨tk.exs b.t h (by simpa using hPD), no b.c1 (by simp), no b.c3 (by simp), b.sh.out h fun c hc => .inr (.inl ⟨tabObj ps, by rw [List.mem_singleton.mp hc]; exact hq⟩), hp, b.e.trans (h.mono (by simp))⟩
theorem BI.lay (tk : Taker C f Lp Dl T) {fs' : Files} (b : BI f Lp P L x D T σ σ' k fs ps) (hD : D ∉ Dl) (hDP : σ D = none) (h : Ex [D] σ' σ'') (s : SHx σ'' x D fs') : BI f Lp P L x D T σ σ'' k fs' ps := by
  obtain ⟨d, es, ep, h1, h2, h3, h4⟩ := id b.sh
  have no : ∀ {a : Addr} {o : AO}, σ' a = some o → (∀ es ep, o ≠ .dictS es ep) → σ'' a = some o := fun {a o} e n => h a o e fun q => by
    rw [List.mem_singleton.mp q, h3] at e; exact n _ _ (Option.some.inj e).symm
  exact ⟨tk.exs b.t h (by simpa using hD), no b.c1 (by simp), no b.c3 (by simp), s, no b.p (by simp), fun a o e n => h a o (b.e a o e n) fun q => by rw [List.mem_singleton.mp q, hDP] at e; cases e⟩
end
theorem toldA : told fsA = [.tup [.str "a", .str "sequential", .tup [.bytes #[120]]]] := by
  have hp : pathsOf fsA = (["a"] : List Str) := (sortS_of (by decide) (by decide)).symm
  unfold told
  rw [hp]; kernel_rfl
theorem mul256 : MulOk "a" 256 ∧ (Txt.mul "a" 256).cps.size = 256 := ⟨by unfold MulOk; decide +kernel, by decide +kernel⟩
theorem wf_bad {p : Str} (h : ¬ goodPath p) (hs : p.cps.size ≤ 1000) : WFs (stB fsA p ("indexed", .seq [])) ∧ ¬ WrGood (stB fsA p ("indexed", .seq [])) := by
  have hne : p ∉ fsA.map (·.1) := fun q => h (by
    have : p = "a" := by simpa using q
    subst this; exact ⟨by decide, by decide⟩)
  rw [stB_new hne]
  refine ⟨⟨by simp, fun e he => ?_⟩, fun g => h (g p ?_).1⟩
  · rcases List.mem_append.mp he with he | he
    · exact wfA.2 e he
    · rw [List.mem_singleton] at he; subst he
      exact ⟨⟨by show PySem.Str.ofString "indexed" ∈ kinds; decide, by show PySem.Str.ofString "indexed" ≠ PySem.Str.ofString "relative"; decide, by simp, by simp⟩, hs⟩
  · exact (paths_perm _).mem_iff.mpr (by simp)
theorem wf_big (j : Nat) : WFs [("r", ("relative", .rel (relOf [(4294967296 + (j : Int), #[])])))] ∧ ¬ WrGood [("r", ("relative", .rel (relOf [(4294967296 + (j : Int), #[])])))] := by
  have e : relOf [(4294967296 + (j : Int), #[])] = [(4294967296 + (j : Int), #[])] := relOf_asc (by simp)
  rw [e]
  refine ⟨⟨by simp, fun p hp => ?_⟩, fun g => ?_⟩
  · rw [List.mem_singleton] at hp; subst hp
    exact ⟨⟨by show PySem.Str.ofString "relative" ∈ kinds; decide, rfl, by simp, by simp; omega⟩, by show (PySem.Str.ofString "r").cps.size ≤ 1000; decide⟩
  · have h1 := (g "r" ((paths_perm _).mem_iff.mpr (by simp))).2
    have h2 : fileOf [("r", ("relative", .rel [(4294967296 + (j : Int), #[])]))] "r" = ((PySem.Str.ofString "relative", Cont.rel [(4294967296 + (j : Int), #[])]) : Str × Cont) := by
      unfold fileOf; rw [vlB_nodup (x := ((PySem.Str.ofString "relative", Cont.rel [(4294967296 + (j : Int), #[])]) : Str × Cont)) (by simp) (by simp)]; rfl
    rw [h2] at h1
    have h3 : ∀ r ∈ relRows [(4294967296 + (j : Int), (#[] : Array UInt8))], r.1 < 4294967296 := h1
    rw [relRows_asc (by simp)] at h3
    have := h3 _ (List.mem_singleton_self _)
    simp at this; omega
section
variable {C : Cx} {σ : Store} {n : Nat} {env : Env} {ε : Loc} {Q : V → Store → Prop} {X : AX → Store → Prop} {QS : Fl → Loc → Store → Prop}
theorem refused_lam (O : L1 C) {body : Expr} {scope : Scope} {pos : Pos} {cl : List (Str × Addr)} {c P : Addr} {ps : Array Value} {params : Arguments} {p0 p1 : Pos}
    (hC : CodeHd C.H c P) (hP : σ P = some (.raw (tabObj ps))) (ht : TriplesOk ps.toList) (hnf : codeAmong pos ps.toList = none)
    (h : ∀ (L' fl c' : Addr) (σ₁ : Store), Ex [P] σ σ₁ → σ₁ P = some (.raw (tabObj (ps ++ #[rawInt pos.line, rawInt pos.col, .ref c']))) → EV C n (envX (env.qual ++ "<lambda>") scope L' fl (.ref c') cl) [] body σ₁ (fun _ σ' => Q (.bool false) σ') (fun ax σ' => ax.C = 60 ∧ Q (.bool true) σ'))
    (hcode : env.code = .ref c := by rfl) (hcl : closureFor scope env = pure cl := by rfl) (hge0 : env.globals = mainGlobals := by rfl) (hdef : defaultsOf params env = ([], []) := by rfl)
    (hb : ∀ pm c' ctv, bindArgs (kla_fn "<lambda>" (env.qual ++ "<lambda>") params body scope cl pm (.ref c') ctv) ⟨[], []⟩ = pure [] := by intros; rfl)
    (hco : scope.isCoroutine = false := by rfl) (hgen : scope.isGenerator = false := by rfl) (hk : scope.kind = .function := by rfl) (hcell : ∀ x ∈ scope.names, x.2 ≠ .cell := by decide) 
    (e : nsIn (hd.heap_1 C.w.params) mainGlobals "_law_is_refused" = some (some (.ref 278)) := by k_is) (kp : keepIn (hd.heap_1 C.w.params) (.ref 278) = true := by k_is)
    (hk2 : env.scope.kind = .function := by rfl) (hl : env.kindOf "_law_is_refused" = some .globalImplicit := by rfl) :
    EV C (n + 2) env ε (.Call (.Name "_law_is_refused" p0) [.Lambda params body scope pos] [] p1) σ Q X := by
  refine gc O (v := .ref 278) ?_ e kp hk2 hl hge0
  refine TL_cons ?_
  refine EV_Lambda O.ok hcode hC hP ht hnf hcl hge0 hdef ?_
  intro fl c' oc ws t pm ctv d1 d2 d3 d4 d5
  refine TL_nil ?_
  have hcP : c' ≠ P := fun q => by rw [q, hP] at d1; cases d1
  have hfP : fl ≠ P := fun q => by rw [q, hP] at d2; cases d2
  have hE : Ex [P] σ (upd (upd (upd σ P (.raw (tabObj (ps ++ #[rawInt pos.line, rawInt pos.col, .ref c'])))) c' (.raw oc)) fl (.raw (kla_obj "<lambda>" (env.qual ++ "<lambda>") params body scope cl pm c' ctv))) := by
    refine ((Ex.set (by simp)).trans (Ex.new ?_)).trans (Ex.new ?_)
    · rw [upd_ne _ _ hcP]; exact d1
    · rw [upd_ne _ _ (Ne.symm d3), upd_ne _ _ hfP]; exact d2
  refine refused_spec (n := n + 1) O (Kp_fn (upd_self _ _ _)) ?_
  refine CALL_lam (names := []) O.ok (upd_self _ _ _) (by rw [upd_ne _ _ d3, upd_self]) d4 d5 (fun vs hv => ?_) (by simp) (by simp) (fun L' _ => h L' fl c' _ hE (by rw [upd_ne _ _ (Ne.symm hfP), upd_ne _ _ (Ne.symm hcP), upd_self])) hco hgen hk hcell
  rw [List.length_eq_zero_iff.mp hv]
  exact hb _ _ _
theorem bounds_spec (O : L1 C) {f Lp : Addr} {Dl : List Addr} {T : Nat → Store → Prop} (tk : Taker C f Lp Dl T) {k : Nat} (t : T k σ) (hk : k + 10 < 450) {P : Addr} (hC : CodeHd C.H 296 P) (hP : σ P = some (.raw (tabObj #[]))) (hPD : P ∉ Dl) :
    CALL C (n + 15) (.ref 297) [.obj f] σ (fun r σ' => r = .bool true ∧ (∃ k', T k' σ' ∧ k' ≤ k + 10) ∧ (∃ ps, σ' P = some (.raw (tabObj ps))) ∧ Ex [Lp, P] σ σ') X := by
  refine CALL_cells (names := ["take"]) O.ok (O.k (f := fun K => K.lookup 297) (by k_is)) (O.k (f := fun K => codeIn K _ _) (by k_is)) ?_ (by decide) (by walk_at "hk") (by decide) (by decide) ?_
  · exact all1 fun _ => rfl
  intro L hL
  show TS C (n + 14) _ [] _ (upd (upd (upd σ (L + 1) (.cell (some (.obj f)))) (L + 2) (.cell none)) (L + 3) (.cell none)) _ _
  have ne : ∀ {i j : Nat}, i ≠ j → L + i ≠ L + j := fun h q => h (Nat.add_left_cancel q)
  have a1 : σ (L + 1) = none := hL _ (Nat.le_add_right L 1)
  have a2 : σ (L + 2) = none := hL _ (Nat.le_add_right L 2)
  have a3 : σ (L + 3) = none := hL _ (Nat.le_add_right L 3)
  have hs0 : Ex [] σ (upd (upd (upd σ (L + 1) (.cell (some (.obj f)))) (L + 2) (.cell none)) (L + 3) (.cell none)) :=
    ((Ex.new a1).trans (Ex.new (by rw [upd_ne _ _ (ne (by decide))]; exact a2))).trans (Ex.new (by rw [upd_ne _ _ (ne (by decide)), upd_ne _ _ (ne (by decide))]; exact a3))
  generalize hσ0 : upd (upd (upd σ (L + 1) (.cell (some (.obj f)))) (L + 2) (.cell none)) (L + 3) (.cell none) = σ0 at hs0 ⊢
  have c1 : σ0 (L + 1) = some (.cell (some (.obj f))) := by rw [← hσ0, upd_ne _ _ (ne (by decide)), upd_ne _ _ (ne (by decide)), upd_self]
  have c2 : σ0 (L + 2) = some (.cell none) := by rw [← hσ0, upd_ne _ _ (ne (by decide)), upd_self]
  have c3 : σ0 (L + 3) = some (.cell none) := by rw [← hσ0, upd_self]
  have t0 := tk.ex t hs0
  have m2 : L + 2 ∉ Dl := tk.out t a2
  have m3 : L + 3 ∉ Dl := tk.out t a3
  have b1 : L + 1 ∉ [Lp, P] := by
    intro q
    rcases List.mem_cons.mp q with q | q
    · exact tk.has t (by rw [← q]; exact a1)
    · rw [List.mem_singleton] at q; rw [← q, a1] at hP; cases hP
  have b2 : L + 2 ∉ [Lp, P] := by
    intro q
    rcases List.mem_cons.mp q with q | q
    · exact tk.has t (by rw [← q]; exact a2)
    · rw [List.mem_singleton] at q; rw [← q, a2] at hP; cases hP
  have b3 : L + 3 ∉ [Lp, P] := by
    intro q
    rcases List.mem_cons.mp q with q | q
    · exact tk.has t (by rw [← q]; exact a3)
    · rw [List.mem_singleton] at q; rw [← q, a3] at hP; cases hP
  clear hσ0 hL
  refine TS_cons (TS_Assign (gc0 O ((new_spec (n := n + 11) O).mono ?_ fun _ _ z => z)))
  rintro r σ₁ ⟨x, D, rfl, hx, hD, sh, e1⟩
  refine SN_cell (o := none) rfl (e1.get c3) ?_
  have hDσ : σ D = none := hs0.gone hD
  have hDl : D ∉ Dl := tk.out t hDσ
  have e0 : Ex [L + 3] σ0 (upd σ₁ (L + 3) (.cell (some (.obj x)))) := (e1.mono (by simp)).trans (Ex.set (by simp))
  have B0 : BI f Lp P L x D T σ (upd σ₁ (L + 3) (.cell (some (.obj x)))) k [] #[] := by
    refine ⟨tk.exs t0 e0 (by simpa using m3), e0 _ _ c1 (by simpa using ne (by decide)), upd_self _ _ _, sh.out (S := [L + 3]) (Ex.set (by simp)) fun c hc => .inr (.inr ⟨none, by rw [List.mem_singleton.mp hc]; exact e1.get c3⟩), e0 _ _ (hs0.get hP) (fun q => b3 (by rw [← List.mem_singleton.mp q]; simp)), fun a o e _ => e0 _ _ (hs0.get e) fun q => by rw [List.mem_singleton.mp q, a3] at e; cases e⟩
  have k2 : (upd σ₁ (L + 3) (.cell (some (.obj x)))) (L + 2) = some (.cell none) := e0 _ _ c2 (by simpa using ne (by decide))
  generalize upd σ₁ (L + 3) (.cell (some (.obj x))) = σ2 at B0 k2 ⊢
  clear e0 e1 hD hx sh c1 c2 c3 t0
  show TS _ _ _ _ (execs (_ :: _) _) _ _ _
  obtain ⟨d, es, ep, h1, h2, h3, h4⟩ := id B0.sh
  refine TS_cons (TS_Expr (EV_Method (EV_cell rfl B0.c3 (sh_meth (f := 110) O h1 h2 ?_))))
  refine CW_cons (TL_cons (EV_str (TL_cons (EV_str (TL_cons (EV_List (TL_cons (EV_bytes (TL_nil ⟨by simp, ?_⟩)))))))))
  intro l hl
  have el : Ex [] σ2 (upd σ2 l (.list [.bytes #[120]])) := Ex.new hl
  refine TL_nil ⟨Kp_K O.ok (O.k (f := fun K => keepIn K _) (by k_is)), OPL_call ((lay_other_spec (n := n + 6) (P := fun _ => True) (k := "sequential") (rows := [#[120]]) O (B0.sh.ex0 el) (by decide) (by decide) (.inl ⟨l, rfl, upd_self _ _ _⟩) (by decide) (by decide) trivial).mono ?_ fun ax σ' z => absurd (by decide) z.1)⟩
  rintro r σ3 ⟨_, _, s3, e3⟩
  rw [fsA_eq] at s3
  have B3 := (B0.step tk el).lay tk hDl hDσ e3 s3
  have k3 : σ3 (L + 2) = some (.cell none) := e3 _ _ (el.get k2) fun q => by rw [List.mem_singleton.mp q, h3] at k2; cases k2
  clear e3 el hl h1 h2 h3 h4 B0 k2
  show TS _ _ _ _ (execs (_ :: _) _) _ _ _
  obtain ⟨d, es, ep, h1, h2, h3, h4⟩ := id B3.sh
  refine TS_cons ?_
  refine TS_Assign (EV_Method (EV_cell rfl B3.c3 (sh_meth (f := 134) O h1 h2 (CW_nil (Kp_K O.ok (O.k (f := fun K => keepIn K _) (by k_is))) (OPL_call ((told_spec (n := n + 7) O B3.sh wfA).mono ?_ fun _ _ z => z))))))
  rintro r σ4 ⟨rfl, e4⟩
  rw [toldA]
  have B4 := B3.step tk e4
  have k4 := e4.get k3
  clear e4 B3 k3 h1 h2 h3 h4
  refine SN_local ?_
  show TS _ _ _ _ (execs (_ :: _) _) _ _ _
  refine TS_cons ?_
  refine TS_If (TT_BoolOp (TT_Or (TT_Not (TT_value ?_))))
  refine refused_lam (n := n + 12) O hC B4.p trivial rfl ?_
  intro L' fl c' σ5 e5 p5
  have B5 := B4.tab tk hPD p5 e5
  have k5 : σ5 (L + 2) = some (.cell none) := e5 _ _ k4 fun q => b2 (by rw [List.mem_singleton.mp q]; simp)
  clear e5 p5 B4 k4
  obtain ⟨d, es, ep, h1, h2, h3, h4⟩ := id B5.sh
  refine EV_Method (EV_free rfl B5.c3 (sh_meth (f := 110) O h1 h2 ?_))
  refine CW_cons ?_
  refine TL_cons ?_
  refine EV_str ?_
  refine TL_cons ?_
  refine EV_str ?_
  refine TL_cons ?_
  refine EV_List ?_
  refine TL_cons ?_
  refine EV_Tuple ?_
  refine TL_cons ?_
  refine EV_int ?_
  refine TL_cons ?_
  refine EV_bytes ?_
  refine TL_nil ⟨by simp, ?_⟩
  refine TL_cons ?_
  refine EV_Tuple ?_
  refine TL_cons ?_
  refine EV_BinOp (EV_int ?_)
  refine tk_call tk 3 B5.t (by omega) (EV_free rfl B5.c1 ⟨rfl, rfl⟩) ?_
  intro j σ6 hj t6 e6
  refine sub_ii ?_
  refine TL_cons ?_
  refine EV_bytes ?_
  refine TL_nil ⟨by simp, ?_⟩
  refine TL_nil ⟨by simp, ?_⟩
  intro l hl
  have B6 := B5.draw tk t6 e6
  have e6' : Ex [] σ6 (upd σ6 l (.list [.tup [.int 1, .bytes #[121]], .tup [.int (0 - (j : Int)), .bytes #[122]]])) := Ex.new hl
  have k6 : σ6 (L + 2) = some (.cell none) := e6 _ _ k5 fun q => b2 (by rw [List.mem_singleton.mp q]; simp)
  refine TL_nil ⟨Kp_K O.ok (O.k (f := fun K => keepIn K _) (by k_is)), OPL_call ((lay_rel_spec (n := n + 4) (P := fun _ => True) (rows := [(1, #[121]), (0 - (j : Int), #[122])]) O (B6.sh.ex0 e6') (by decide) (.inl ⟨l, rfl, upd_self _ _ _⟩) (by simp) trivial).mono ?_ ?_)⟩
  · rintro r σ7 ⟨bad, _⟩
    exact absurd (bad (0 - (j : Int), #[122]) (by simp)) (by show ¬ (1 : Int) ≤ 0 - (j : Int); omega)
  rintro ax σ7 ⟨_, q1, _, e7⟩
  refine ⟨q1, OPT_bool ?_⟩
  have B7 := (B6.step tk e6').step tk e7
  have k7 := e7.get (e6'.get k6)
  clear e6 e6' e7 B6 B5 k5 k6 h1 h2 h3 h4 q1 hl t6
  show TT _ _ _ _ _ _ _ _
  refine TT_Or (TT_Not (TT_value ?_))
  refine refused_lam (n := n + 12) O hC B7.p (by simp [TriplesOk, rawInt]) (by simp [codeAmong, rawInt]) ?_
  intro L2 fl2 c2' σ8 e8 p8
  have B8 := B7.tab tk hPD p8 e8
  have k8 : σ8 (L + 2) = some (.cell none) := e8 _ _ k7 fun q => b2 (by rw [List.mem_singleton.mp q]; simp)
  clear e8 p8 B7 k7
  obtain ⟨d, es, ep, h1, h2, h3, h4⟩ := id B8.sh
  refine EV_Method (EV_free rfl B8.c3 (sh_meth (f := 110) O h1 h2 ?_))
  refine CW_cons ?_
  refine TL_cons (EV_str ?_)
  refine TL_cons (EV_Sub ?_)
  refine EV_const (v := .tup [.str "line", .str "", .str "Sequential"]) ?ce ?_
  case ce => repeat' first | exact .int | exact .str | exact .bytes | exact .nil | refine .cons ?_ ?_ | refine .tup ?_ (by decide)
  refine tk_call tk 3 B8.t (by omega) (EV_free rfl B8.c1 ⟨rfl, rfl⟩) ?_
  intro j2 σ9 hj2 t9 e9
  have B9 := B8.draw tk t9 e9
  have k9 : σ9 (L + 2) = some (.cell none) := e9 _ _ k8 fun q => b2 (by rw [List.mem_singleton.mp q]; simp)
  clear e9 B8 k8 h1 h2 h3 h4 t9
  obtain ⟨bk, hbk, hbn, hbl⟩ : ∃ bk : Str, [V.str "line", .str "", .str "Sequential"][j2]? = some (.str bk) ∧ bk ∉ kinds ∧ bk.length ≤ 1000 := by
    have h3 : j2 = 0 ∨ j2 = 1 ∨ j2 = 2 := by omega
    rcases h3 with rfl | rfl | rfl
    · exact ⟨_, rfl, by decide, by decide⟩
    · exact ⟨_, rfl, by decide, by decide⟩
    · exact ⟨_, rfl, by decide, by decide⟩
  have hsq : seqIndex? (j2 : Int) 3 = some j2 := by
    have h3 : j2 = 0 ∨ j2 = 1 ∨ j2 = 2 := by omega
    rcases h3 with rfl | rfl | rfl <;> rfl
  refine sub_tup (j := j2) hsq hbk ?_
  refine TL_cons (EV_List (TL_nil ⟨by simp, ?_⟩))
  intro l hl
  have e10 : Ex [] σ9 (upd σ9 l (.list [])) := Ex.new hl
  refine TL_nil ⟨Kp_K O.ok (O.k (f := fun K => keepIn K _) (by k_is)), OPL_call ((lay_other_spec (n := n + 4) (P := fun _ => True) (k := bk) (rows := []) O (B9.sh.ex0 e10) (by decide) hbl (.inl ⟨l, rfl, upd_self _ _ _⟩) (by decide) (fun q => hbn (by rw [q]; decide)) trivial).mono (fun r σ' z => absurd z.1 hbn) ?_)⟩
  rintro ax σ10 ⟨_, q1, _, e11⟩
  refine ⟨q1, OPT_bool ?_⟩
  have B10 := (B9.step tk e10).step tk e11
  have k10 := e11.get (e10.get k9)
  clear e10 e11 B9 k9 q1 hl hbk hbn hbl hsq
  show TT _ _ _ _ _ _ _ _
  refine TT_Or_nil ?_
  rw [if_neg (by simp)]
  refine TS_nil ?_
  show TS _ _ _ _ (execs (_ :: _) _) _ _ _
  obtain ⟨d, es, ep, h1, h2, h3, h4⟩ := id B10.sh
  refine TS_cons ?_
  refine TS_If (TT_Compare (EV_Method (EV_cell rfl B10.c3 (sh_meth (f := 134) O h1 h2 (CW_nil (Kp_K O.ok (O.k (f := fun K => keepIn K _) (by k_is))) (OPL_call ((told_spec (n := n + 7) O B10.sh wfA).mono ?_ fun _ _ z => z)))))))
  rintro r σ11 ⟨rfl, e11⟩
  rw [toldA]
  have B11 := B10.step tk e11
  have k11 := e11.get k10
  clear e11 B10 k10 h1 h2 h3 h4
  refine EV_local rfl ?_
  refine ne_tt (by decide) (by decide) ⟨_, rfl, ?_⟩
  rw [if_neg (by simp)]
  refine TS_nil ?_
  show TS _ _ _ _ (execs (_ :: _) _) _ _ _
  refine TS_cons ?_
  refine TS_Assign (EV_Sub (EV_Tuple ?_))
  refine TL_cons (EV_BinOp (EV_str (EV_int ?_)))
  refine mul_si mul256.1 ?_
  refine TL_cons (EV_BinOp (EV_str ?_))
  refine bc O ?_
  refine TL_cons (EV_BinOp (EV_int ?_))
  refine tk_call tk 300 B11.t (by omega) (EV_cell rfl B11.c1 ⟨rfl, rfl⟩) ?_
  intro ja σ12 hja t12 e12
  have B12 := B11.draw tk t12 e12
  have k12 : σ12 (L + 2) = some (.cell none) := e12 _ _ k11 fun q => b2 (by rw [List.mem_singleton.mp q]; simp)
  clear e12 B11 k11 t12
  refine add_ii (TL_nil (chr_i (by omega) (by omega) ?_))
  refine add_ss (by show (1 : Nat) + 1 ≤ _; decide) ?_
  refine TL_cons ?_
  refine bc O ?_
  refine TL_cons ?_
  refine tk_call tk 32 B12.t (by omega) (EV_cell rfl B12.c1 ⟨rfl, rfl⟩) ?_
  intro jb σ13 hjb t13 e13
  have B13 := B12.draw tk t13 e13
  have k13 : σ13 (L + 2) = some (.cell none) := e13 _ _ k12 fun q => b2 (by rw [List.mem_singleton.mp q]; simp)
  clear e13 B12 k12 t13
  refine TL_nil (chr_i (by omega) (by omega) ?_)
  refine TL_nil ⟨by simp, ?_⟩
  refine tk_call tk 3 B13.t (by omega) (EV_cell rfl B13.c1 ⟨rfl, rfl⟩) ?_
  intro jc σ14 hjc t14 e14
  have B14 := B13.draw tk t14 e14
  have k14 : σ14 (L + 2) = some (.cell none) := e14 _ _ k13 fun q => b2 (by rw [List.mem_singleton.mp q]; simp)
  clear e14 B13 k13 t14
  obtain ⟨pth, hpt, hbad, hsz⟩ : ∃ pth : Str, [V.str (Txt.mul "a" 256), .str ("a" ++ ⟨#[(127 + (ja : Int)).toNat]⟩), .str ⟨#[(jb : Int).toNat]⟩][jc]? = some (.str pth) ∧ ¬ goodPath pth ∧ pth.cps.size ≤ 1000 := by
    have h3 : jc = 0 ∨ jc = 1 ∨ jc = 2 := by omega
    rcases h3 with rfl | rfl | rfl
    · exact ⟨_, rfl, fun g => by have := g.2; rw [mul256.2] at this; omega, by rw [mul256.2]; decide⟩
    · refine ⟨_, rfl, fun g => ?_, by show (2 : Nat) ≤ 1000; decide⟩
      have := (g.1 ((127 + (ja : Int)).toNat) (by show _ ∈ [97, (127 + (ja : Int)).toNat]; simp)).2
      omega
    · refine ⟨_, rfl, fun g => ?_, by show (1 : Nat) ≤ 1000; decide⟩
      have := (g.1 ((jb : Int).toNat) (by show _ ∈ [(jb : Int).toNat]; simp)).1
      omega
  have hsq : seqIndex? (jc : Int) 3 = some jc := by
    have h3 : jc = 0 ∨ jc = 1 ∨ jc = 2 := by omega
    rcases h3 with rfl | rfl | rfl <;> rfl
  refine sub_tup (j := jc) hsq hpt ?_
  refine SN_local ?_
  show TS _ _ _ _ (execs (_ :: _) _) _ _ _
  obtain ⟨d, es, ep, h1, h2, h3, h4⟩ := id B14.sh
  refine TS_cons ?_
  refine TS_Expr (EV_Method (EV_cell rfl B14.c3 (sh_meth (f := 110) O h1 h2 ?_)))
  refine CW_cons ?_
  refine TL_cons (EV_local rfl ?_)
  refine TL_cons (EV_str ?_)
  refine TL_cons (EV_List (TL_nil ⟨by simp, ?_⟩))
  intro l hl
  have e15 : Ex [] σ14 (upd σ14 l (.list [])) := Ex.new hl
  refine TL_nil ⟨Kp_K O.ok (O.k (f := fun K => keepIn K _) (by k_is)), OPL_call ((lay_other_spec (n := n + 6) (P := fun _ => True) (k := "indexed") (rows := []) O (B14.sh.ex0 e15) (by decide) (by decide) (.inl ⟨l, rfl, upd_self _ _ _⟩) (by decide) (by decide) trivial).mono ?_ fun ax σ' z => absurd (by decide) z.1)⟩
  rintro r σ15 ⟨_, _, s15, e16⟩
  have B15 := (B14.step tk e15).lay tk hDl hDσ e16 s15
  have k15 : σ15 (L + 2) = some (.cell none) := e16 _ _ (e15.get k14) fun q => by rw [List.mem_singleton.mp q, h3] at k14; cases k14
  obtain ⟨wB, nB⟩ := wf_bad hbad hsz
  clear e15 e16 B14 k14 h1 h2 h3 h4 hl s15 hpt hsq
  show TS _ _ _ _ (execs (_ :: _) _) _ _ _
  refine TS_cons ?_
  refine TS_If (TT_Not (TT_value ?_))
  refine refused_lam (n := n + 12) O hC B15.p (by simp [TriplesOk, rawInt]) (by simp [codeAmong, rawInt]) ?_
  intro L3 fl3 c3' σ16 e16 p16
  have B16 := B15.tab tk hPD p16 e16
  have k16 : σ16 (L + 2) = some (.cell none) := e16 _ _ k15 fun q => b2 (by rw [List.mem_singleton.mp q]; simp)
  clear e16 p16 B15 k15
  refine gc O ?_
  refine TL_cons (EV_free rfl B16.c3 ?_)
  refine TL_nil ((write_spec (n := n) (P := fun _ => True) O B16.sh wB trivial).mono (fun r σ' z => absurd z.1 nB) ?_)
  rintro ax σ17 ⟨_, q1, _, e17⟩
  refine ⟨q1, OPT_bool ?_⟩
  have B17 := B16.step tk e17
  have k17 := e17.get k16
  clear e17 B16 k16 q1 wB nB hbad hsz
  rw [if_neg (by simp)]
  refine TS_nil ?_
  show TS _ _ _ _ (execs (_ :: _) _) _ _ _
  refine TS_cons ?_
  refine TS_Assign (EV_BinOp (EV_int ?_))
  refine tk_call tk 3 B17.t (by omega) (EV_cell rfl B17.c1 ⟨rfl, rfl⟩) ?_
  intro jd σ18 hjd t18 e18
  have B18 := B17.draw tk t18 e18
  have k18 : σ18 (L + 2) = some (.cell none) := e18 _ _ k17 fun q => b2 (by rw [List.mem_singleton.mp q]; simp)
  clear e18 B17 k17 t18
  refine add_ii (SN_local ?_)
  show TS _ _ _ _ (execs (_ :: _) _) _ _ _
  refine TS_cons ?_
  refine TS_Assign (gc0 O ((new_spec (n := n + 11) O).mono ?_ fun _ _ z => z))
  rintro r σ19 ⟨x2, D2, rfl, hx2, hD2, s19, e19⟩
  have B19 := B18.step tk e19
  have k19 := e19.get k18
  refine SN_cell (o := none) rfl k19 ?_
  have e20 : Ex [L + 2] σ19 (upd σ19 (L + 2) (.cell (some (.obj x2)))) := Ex.set (by simp)
  have c20 : (upd σ19 (L + 2) (.cell (some (.obj x2)))) (L + 2) = some (.cell (some (.obj x2))) := upd_self _ _ _
  have s20 := s19.out e20 fun c hc => .inr (.inr ⟨none, by rw [List.mem_singleton.mp hc]; exact k19⟩)
  have t20 := tk.exs B19.t e20 (by simpa using m2)
  have p20 := e20 _ _ B19.p (by simpa using fun q : P = L + 2 => b2 (by rw [← q]; simp))
  have E20 : Ex [Lp, P] σ (upd σ19 (L + 2) (.cell (some (.obj x2)))) := fun a o e n => e20 _ _ (B19.e a o e n) fun q => by rw [List.mem_singleton.mp q, a2] at e; cases e
  have hD2σ : σ D2 = none := by
    cases q : σ D2 with
    | none => rfl
    | some o =>
      by_cases hm : D2 ∈ [Lp, P]
      · rcases List.mem_cons.mp hm with hm | hm
        · exact absurd hD2 (by rw [hm]; exact tk.has B18.t)
        · rw [List.mem_singleton.mp hm, B18.p] at hD2; cases hD2
      · rw [B18.e _ _ q hm] at hD2; cases hD2
  generalize upd σ19 (L + 2) (.cell (some (.obj x2))) = σ20 at e20 c20 s20 t20 p20 E20 ⊢
  clear e20 s19 e19 B18 k18 B19 k19
  show TS _ _ _ _ (execs (_ :: _) _) _ _ _
  obtain ⟨d, es, ep, h1, h2, h3, h4⟩ := id s20
  refine TS_cons ?_
  refine TS_Expr (EV_Method (EV_cell rfl c20 (sh_meth (f := 110) O h1 h2 ?_)))
  refine CW_cons ?_
  refine TL_cons (EV_str ?_)
  refine TL_cons (EV_str ?_)
  refine TL_cons (EV_List ?_)
  refine TL_cons (EV_Tuple ?_)
  refine TL_cons (EV_local rfl ?_)
  refine TL_cons (EV_bytes (TL_nil ⟨by simp, ?_⟩))
  refine TL_nil ⟨by simp, ?_⟩
  intro l hl
  have e21 : Ex [] σ20 (upd σ20 l (.list [.tup [.int (4294967296 + (jd : Int)), .bytes #[]]])) := Ex.new hl
  refine TL_nil ⟨Kp_K O.ok (O.k (f := fun K => keepIn K _) (by k_is)), OPL_call ((lay_rel_spec (n := n + 6) (P := fun _ => True) (rows := [(4294967296 + (jd : Int), #[])]) O (s20.ex0 e21) (by decide) (.inl ⟨l, rfl, upd_self _ _ _⟩) (by simp) trivial).mono ?_ fun ax σ' z => ?_)⟩
  rotate_left
  · exact absurd (fun r hr => by rw [List.mem_singleton.mp hr]; show (1 : Int) ≤ 4294967296 + (jd : Int); omega) z.1
  rintro r σ21 ⟨_, _, s21, e22⟩
  have hD2l : D2 ∉ Dl := tk.out t hD2σ
  have t21 := tk.exs (tk.ex t20 e21) e22 (by simpa using hD2l)
  have nD : ∀ {a : Addr} {o : AO}, σ20 a = some o → (∀ es ep, o ≠ .dictS es ep) → σ21 a = some o := fun {a o} e n => e22 _ _ (e21.get e) fun q => by
    rw [List.mem_singleton.mp q, h3] at e; exact n _ _ (Option.some.inj e).symm
  have p21 := nD p20 (by simp)
  have c21 := nD c20 (by simp)
  have E21 : Ex [Lp, P] σ σ21 := fun a o e n => e22 _ _ (e21.get (E20 a o e n)) fun q => by rw [List.mem_singleton.mp q, hD2σ] at e; cases e
  clear e21 e22 t20 s20 p20 c20 E20 nD h1 h2 h3 h4 hl
  show TS _ _ _ _ (execs (_ :: _) _) _ _ _
  refine TS_cons ?_
  refine TS_Return ?_
  refine refused_lam (n := n + 12) O hC p21 (by simp [TriplesOk, rawInt]) (by simp [codeAmong, rawInt]) ?_
  intro L4 fl4 c4' σ22 e23 p23
  have s22 := s21.out e23 fun c hc => .inr (.inl (by rw [List.mem_singleton.mp hc]; exact ⟨_, p21⟩))
  have c22 := e23 _ _ c21 fun q => b2 (by rw [List.mem_singleton.mp q]; simp)
  obtain ⟨wC, nC⟩ := wf_big jd
  refine gc O ?_
  refine TL_cons (EV_free rfl c22 ?_)
  refine TL_nil ((write_spec (n := n) (P := fun _ => True) O s22 wC trivial).mono (fun r σ' z => absurd z.1 nC) ?_)
  rintro ax σ23 ⟨_, q1, _, e24⟩
  exact ⟨q1, rfl, ⟨_, tk.ex (tk.exs t21 e23 (by simpa using hPD)) e24, by omega⟩, ⟨_, e24.get p23⟩, (E21.trans (e23.mono (by simp))).trans (e24.mono (by simp))⟩
end
end Mine
end
section
open PySem PySem.W PyProof.Rows PySem.Calls PySem.Spec
set_option Elab.async false
set_option maxRecDepth 100000
set_option maxHeartbeats 0
namespace Mine
theorem mul255 : MulOk "z" 255 ∧ Txt.mul "z" 255 = ⟨(List.replicate 255 122).toArray⟩ := ⟨by unfold MulOk; decide +kernel, by decide +kernel⟩
theorem seqIndex_nat {j k : Nat} (h : j < k) : seqIndex? (j : Int) k = some j := by
  unfold seqIndex?
  simp
  omega
theorem LSt.out {σ σ' : Store} {S : List Addr} {D : Addr} {fs : Files} (s : LSt σ D fs) (h : Ex S σ σ') (hS : ∀ c ∈ S, (∃ i : Int, σ c = some (.list [.int i])) ∨ (∃ o, σ c = some (.raw o)) ∨ (∃ v, σ c = some (.cell v)) ∨ (∃ es ep, σ c = some (.dictS es ep)) ∧ c ≠ D) : LSt σ' D fs := by
  obtain ⟨es, ep, h1, h2⟩ := s
  refine ⟨es, ep, h _ _ h1 fun q => ?_, ?_⟩
  · rcases hS D q with ⟨i, z⟩ | ⟨r, z⟩ | ⟨v, z⟩ | ⟨_, z⟩
    · rw [h1] at z; cases z
    · rw [h1] at z; cases z
    · rw [h1] at z; cases z
    · exact z rfl
  · clear h1
    induction h2 with
    | nil => exact .nil
    | cons a _ ih =>
      refine .cons ?_ ih
      obtain ⟨c, e, k⟩ := a
      refine ⟨c, e, h _ _ k fun q => ?_⟩
      rcases hS c q with ⟨i, z⟩ | ⟨r, z⟩ | ⟨v, z⟩ | ⟨⟨es, ep, z⟩, _⟩
      · rw [k] at z
        injection z with z
        injection z with z
        rename_i f _ _ _
        obtain ⟨fk, fc⟩ := f
        cases fc with
        | seq rows => cases rows with
          | nil => cases z
          | cons b r => injection z with z _; cases z
        | rel rows => cases rows with
          | nil => cases z
          | cons b r => injection z with z _; cases z
      · rw [k] at z; cases z
      · rw [k] at z; cases z
      · rw [k] at z; cases z
section
variable {C : Cx} {σ : Store} {n : Nat} {env : Env} {ε : Loc} {Q : V → Store → Prop} {X : AX → Store → Prop} {QS : Fl → Loc → Store → Prop}
theorem EV_lkinds (O : L1 C) {pos : Pos} (h : Q (.tup (kinds.map .str)) σ) (hk : env.scope.kind = .function := by rfl) (hl : env.kindOf "_law_KINDS" = some .globalImplicit := by rfl) (hg : env.globals = mainGlobals := by rfl) : EV C n env ε (.Name "_law_KINDS" pos) σ Q X := by
  refine EV_global (y := .tup (kinds.map .str)) O.ok (O.k (f := fun K => nsIn K mainGlobals "_law_KINDS") (by k_is)) (fun h K => ?_) h hk hl hg
  exact ⟨_, _, rfl, ⟨_, K _ _ (O.k (f := fun K => K.lookup _) (by k_is)), rfl, _, rfl⟩, ⟨_, _, rfl, ⟨_, rfl⟩, _, _, rfl, ⟨_, rfl⟩, _, _, rfl, ⟨_, rfl⟩, rfl⟩⟩
theorem paths7_spec (O : L1 C) : CALL C (n + 2) (.ref 245) [] σ (fun r σ' => r = .tup (paths7.map .str) ∧ σ' = σ) X := by
  refine CALL_def (names := []) O.ok (O.k (f := fun K => K.lookup 245) (by k_is)) (O.k (f := fun K => codeIn K _ _) (by k_is)) ?_ (by decide) (by decide) ?_
  · intro vs hv
    match vs, hv with
    | [], _ => rfl
  intro L
  refine TS_cons ?_
  refine TS_Return ?_
  refine EV_Tuple ?_
  refine TL_cons ?_
  refine EV_str ?_
  refine TL_cons ?_
  refine EV_str ?_
  refine TL_cons ?_
  refine EV_str ?_
  refine TL_cons ?_
  refine EV_str ?_
  refine TL_cons ?_
  refine EV_BinOp ?_
  refine EV_str ?_
  refine EV_int ?_
  refine mul_si mul255.1 ?_
  rw [mul255.2]
  refine TL_cons ?_
  refine EV_str ?_
  refine TL_cons ?_
  refine EV_str ?_
  exact TL_nil ⟨by simp, rfl, rfl⟩
end
structure LI (f Lp P1 P2 L Df : Addr) (T : Nat → Store → Prop) (σ' : Store) (k : Nat) (fs : Files) : Prop where
  t : T k σ'
  c1 : σ' (L + 1) = some (.cell (some (.obj Df)))
  s : LSt σ' Df fs
  p1 : ∃ ps, σ' P1 = some (.raw (tabObj ps))
  p2 : ∃ ps, σ' P2 = some (.raw (tabObj ps))
section
variable {C : Cx} {f Lp P1 P2 L Df : Addr} {Dl : List Addr} {T : Nat → Store → Prop} {σ' σ'' : Store} {k : Nat} {fs : Files}
theorem LI.step (tk : Taker C f Lp Dl T) (b : LI f Lp P1 P2 L Df T σ' k fs) (h : Ex [] σ' σ'') : LI f Lp P1 P2 L Df T σ'' k fs :=
  ⟨tk.ex b.t h, h.get b.c1, b.s.out h (by simp), let ⟨ps, q⟩ := b.p1; ⟨ps, h.get q⟩, let ⟨ps, q⟩ := b.p2; ⟨ps, h.get q⟩⟩
theorem LI.draw (tk : Taker C f Lp Dl T) (b : LI f Lp P1 P2 L Df T σ' k fs) {k' : Nat} (t : T k' σ'') (h : Ex [Lp] σ' σ'') : LI f Lp P1 P2 L Df T σ'' k' fs := by
  obtain ⟨i, hi⟩ := tk.at_ b.t
  have no : ∀ {a : Addr} {o : AO}, σ' a = some o → (∀ i, o ≠ .list [.int i]) → σ'' a = some o := fun {a o} e n => h a o e fun q => by
    rw [List.mem_singleton.mp q, hi] at e; exact n i (Option.some.inj e).symm
  exact ⟨t, no b.c1 (by simp), b.s.out h fun c hc => .inl ⟨i, by rw [List.mem_singleton.mp hc]; exact hi⟩, let ⟨ps, q⟩ := b.p1; ⟨ps, no q (by simp)⟩, let ⟨ps, q⟩ := b.p2; ⟨ps, no q (by simp)⟩⟩
theorem LI.beside (tk : Taker C f Lp Dl T) (b : LI f Lp P1 P2 L Df T σ' k fs) {D : Addr} (h : Ex [D] σ' σ'') (hD : ∃ es ep, σ' D = some (.dictS es ep)) (hDf : D ≠ Df) (hDl : D ∉ Dl) : LI f Lp P1 P2 L Df T σ'' k fs := by
  obtain ⟨es, ep, hd⟩ := hD
  have no : ∀ {a : Addr} {o : AO}, σ' a = some o → (∀ es ep, o ≠ .dictS es ep) → σ'' a = some o := fun {a o} e n => h a o e fun q => by
    rw [List.mem_singleton.mp q, hd] at e; exact n _ _ (Option.some.inj e).symm
  exact ⟨tk.exs b.t h (by simpa using hDl), no b.c1 (by simp), b.s.out h fun c hc => .inr (.inr (.inr (by rw [List.mem_singleton.mp hc]; exact ⟨⟨es, ep, hd⟩, hDf⟩))), let ⟨ps, q⟩ := b.p1; ⟨ps, no q (by simp)⟩, let ⟨ps, q⟩ := b.p2; ⟨ps, no q (by simp)⟩⟩
end
section
variable {C : Cx} {σ : Store} {n : Nat} {X : AX → Store → Prop}
inductive LwI (f Lp P1 P2 L Df : Addr) (T : Nat → Store → Prop) (i : Nat) (ε : Loc) (σ' : Store) : Prop
  | mk (w1 : ε.lookup ("take" : Str) = some (.obj f)) (fs : Files) (k' : Nat) (w2 : DFs fs) (w3 : fs.length ≤ i) (I : LI f Lp P1 P2 L Df T σ' k' fs) (w4 : k' ≤ 11 + i * 42)
inductive LwJ (f Lp P1 P2 L Df x D xo Do : Addr) (T : Nat → Store → Prop) (k' : Nat) (fs : Files) (es : List (Str × V)) (ep : Nat) (i : Nat) (ε : Loc) (σ' : Store) : Prop
  | mk (z1 : ε.lookup ("found" : Str) = some (.obj x)) (z2 : ε.lookup ("other" : Str) = some (.obj xo)) (z3 : ε.lookup ("told" : Str) = some (.tup (toldL fs))) (Iz : LI f Lp P1 P2 L Df T σ' k' fs) (z4 : σ' Df = some (.dictS es ep)) (z5 : SHx σ' x D (begun fs ((fs.map (·.1)).take i))) (z6 : SHx σ' xo Do (srt fs))
theorem law_spec (O : L1 C) {sc P1 P2 : Addr} {zs : List Int} (hs : BaseInts C sc zs) (hz : zs.length ≤ 1000) (hC1 : CodeHd C.H 251 P1) (hC2 : CodeHd C.H 296 P2) (hP1 : σ P1 = some (.raw (tabObj #[]))) (hP2 : σ P2 = some (.raw (tabObj #[]))) (h12 : P1 ≠ P2) :
    CALL C (n + 16) (.ref 302) [.obj sc] σ (fun r σ' => r = .bool true ∧ (∃ ps, σ' P1 = some (.raw (tabObj ps))) ∧ ∃ ps, σ' P2 = some (.raw (tabObj ps))) X := by
  refine CALL_cells (names := ["script"]) O.ok (O.k (f := fun K => K.lookup 302) (by k_is)) (O.k (f := fun K => codeIn K _ _) (by k_is)) ?_ (by decide) (by walk_at "hk") (by decide) (by decide) ?_
  · exact all1 fun _ => rfl
  intro L hL
  show TS C (n + 15) _ [("script", .obj sc)] _ (upd σ (L + 1) (.cell none)) _ _
  have a1 : σ (L + 1) = none := hL _ (Nat.le_add_right L 1)
  have hs0 : Ex [] σ (upd σ (L + 1) (.cell none)) := Ex.new a1
  have c1 : (upd σ (L + 1) (.cell none)) (L + 1) = some (.cell none) := upd_self _ _ _
  generalize upd σ (L + 1) (.cell none) = σ0 at hs0 c1 ⊢
  clear hL
  refine TS_cons ?_
  refine TS_Assign (gc O (TL_cons (EV_local rfl (TL_nil ((taker_spec (n := n + 9) (ps := #[]) O hs hz hC1 (hs0.get hP1)).mono ?_ fun _ _ z => z)))))
  rintro r σ1 ⟨f, Lp, Dl, T, rfl, tk, t1, hDl, p1, e1⟩
  have q2 : σ1 P2 = some (.raw (tabObj #[])) := e1 _ _ (hs0.get hP2) (by simpa using Ne.symm h12)
  have d1 : σ1 (L + 1) = some (.cell none) := e1 _ _ c1 (by simpa using fun q : L + 1 = P1 => by rw [q, hs0.get hP1] at c1; cases c1)
  have l1 : L + 1 ∉ Dl := fun q => by rw [hDl _ q] at c1; cases c1
  have n2 : P2 ∉ Dl := fun q => by have := hDl _ q; rw [hs0.get hP2] at this; cases this
  have n1 : P1 ∉ Dl := fun q => by have := hDl _ q; rw [hs0.get hP1] at this; cases this
  clear e1 c1 hs0 hP1 hP2 hDl hs
  refine SN_local ?_
  show TS _ _ _ _ (execs (_ :: _) _) _ _ _
  refine TS_cons ?_
  refine TS_If (TT_BoolOp (TT_Or (TT_Not (TT_value ?_))))
  refine gc0 O ((written_spec (n := n) O).mono ?_ fun _ _ z => z)
  rintro r σ2 ⟨rfl, e2⟩
  refine OPT_bool ?_
  show TT _ _ _ _ _ _ _ _
  refine TT_Or (TT_Not (TT_value ?_))
  refine gc O (TL_cons (EV_local rfl (TL_nil ((bounds_spec (n := n) O tk (tk.ex t1 e2) (by omega) hC2 (e2.get q2) n2).mono ?_ fun _ _ z => z))))
  rintro r σ3 ⟨rfl, ⟨k3, t3, hk3⟩, p3, e3⟩
  have d3 : σ3 (L + 1) = some (.cell none) := e3 _ _ (e2.get d1) (by
    intro q
    rcases List.mem_cons.mp q with q | q
    · exact l1 (by rw [q]; exact tk.lp)
    · rw [List.mem_singleton] at q; rw [q, q2] at d1; cases d1)
  have r3 : ∃ ps, σ3 P1 = some (.raw (tabObj ps)) := let ⟨ps, q⟩ := p1; ⟨ps, e3 _ _ (e2.get q) (by
    intro z
    rcases List.mem_cons.mp z with z | z
    · exact n1 (by rw [z]; exact tk.lp)
    · exact h12 (List.mem_singleton.mp z))⟩
  clear e2 e3 d1 q2 t1 p1
  refine OPT_bool ?_
  show TT _ _ _ _ _ _ _ _
  refine TT_Or_nil ?_
  rw [if_neg (by simp)]
  refine TS_nil ?_
  show TS _ _ _ _ (execs (_ :: _) _) _ _ _
  refine TS_cons ?_
  refine TS_Assign (EV_Dict0S O.ok ?_)
  intro Df hDf
  have nf1 : L + 1 ≠ Df := fun q => by rw [← q, d3] at hDf; cases hDf
  have nfl : Df ∉ Dl := tk.out t3 hDf
  refine SN_cell (o := none) rfl (by rw [upd_ne _ _ nf1]; exact d3) ?_
  have e4 : Ex [L + 1] σ3 (upd (upd σ3 Df (.dictS [] 0)) (L + 1) (.cell (some (.obj Df)))) := (Ex.new hDf).trans (Ex.set (by simp))
  have I0 : LI f Lp P1 P2 L Df T (upd (upd σ3 Df (.dictS [] 0)) (L + 1) (.cell (some (.obj Df)))) k3 [] := by
    refine ⟨tk.exs t3 e4 (by simpa using l1), upd_self _ _ _, ⟨[], 0, by rw [upd_ne _ _ (Ne.symm nf1), upd_self], .nil⟩, ?_, ?_⟩
    · obtain ⟨ps, q⟩ := r3
      exact ⟨ps, e4 _ _ q (by simpa using fun z : P1 = L + 1 => by rw [z, d3] at q; cases q)⟩
    · obtain ⟨ps, q⟩ := p3
      exact ⟨ps, e4 _ _ q (by simpa using fun z : P2 = L + 1 => by rw [z, d3] at q; cases q)⟩
  generalize upd (upd σ3 Df (.dictS [] 0)) (L + 1) (.cell (some (.obj Df))) = σ4 at I0 ⊢
  clear e4 d3 r3 p3 t3 hDf
  show TS _ _ _ _ (execs (_ :: _) _) _ _ _
  refine TS_cons ?_
  refine TS_For_it rfl (IT_range (bl O ⟨rfl, rfl⟩) (TL_cons ?_))
  refine tk_call tk 5 I0.t (by omega) (EV_local rfl ⟨rfl, rfl⟩) ?_
  intro j5 σ5 hj5 t5 e5
  have I5 := I0.draw tk t5 e5
  refine TL_nil ⟨0, _, 1, j5, .inl ⟨rfl, rfl, rfl⟩, small_nat (by omega), size_nat _, ?_⟩
  rw [upto_map]
  clear e5 I0 t5
  refine ForW_each (LwI f Lp P1 P2 L Df T) _ (List.range j5) (fun i x hx ε σ' ⟨w1, fs, k', w2, w3, I, w4⟩ => ?_) (fun ε σ' ⟨w1, fs, k', w2, w3, I, w4⟩ => ?_) ⟨rfl, [], k3 + 1, ⟨by simp, by simp, by simp⟩, by simp, I5, by omega⟩
  · have hij : i < j5 := by simpa using (List.getElem?_eq_some_iff.mp hx).1
    refine TA_Name (SN_local ?_)
    refine TS_cons ?_
    refine TS_Assign (EV_Sub (EV_lkinds O ?_))
    refine tk_call tk 3 I.t (by omega) (EV_local w1 ⟨rfl, rfl⟩) ?_
    intro ja σa hja ta ea
    have Ia := I.draw tk ta ea
    obtain ⟨kd, hkd, hkm⟩ : ∃ kd, (kinds.map V.str)[ja]? = some (.str kd) ∧ kd ∈ kinds := by
      have h3 : ja < kinds.length := hja
      exact ⟨kinds[ja], by rw [List.getElem?_map, List.getElem?_eq_getElem h3]; rfl, List.getElem_mem h3⟩
    refine sub_tup (j := ja) (seqIndex_nat hja) hkd ?_
    refine SN_local ?_
    clear I ea ta
    show TS _ _ _ _ (execs (_ :: _) _) _ _ _
    refine TS_cons ?_
    refine TS_SetSub ?_
    refine EV_Tuple ?_
    refine TL_cons (EV_local rfl ?_)
    refine TL_cons ?_
    refine gc O ?_
    refine TL_cons (EV_local w1 ?_)
    refine TL_cons (EV_local rfl ?_)
    refine TL_nil ((lrows_spec (n := n + 8) O tk Ia.t (by omega)).mono ?_ fun _ _ z => z)
    rintro r σb ⟨c, cont, kb, rfl, hcn, hcl, hcd, tb, hkb, eb⟩
    have Ib := Ia.draw tk tb eb
    refine TL_nil ⟨by simp, ?_⟩
    refine EV_cell rfl Ib.c1 ?_
    refine EV_Sub ?_
    refine gc0 O ((paths7_spec (n := n + 13) O).mono ?_ fun _ _ z => z)
    rintro r σc ⟨rfl, rfl⟩
    refine tk_call tk 7 Ib.t (by omega) (EV_local w1 ⟨rfl, rfl⟩) ?_
    intro jd σd hjd td ed
    have Id := Ib.draw tk td ed
    obtain ⟨pth, hpt, hpm⟩ : ∃ p, (paths7.map V.str)[jd]? = some (.str p) ∧ p ∈ paths7 := by
      have h3 : jd < paths7.length := hjd
      exact ⟨paths7[jd], by rw [List.getElem?_map, List.getElem?_eq_getElem h3]; rfl, List.getElem_mem h3⟩
    refine sub_tup (j := jd) (seqIndex_nat hjd) hpt ?_
    have hcl' : σd c = some (.list (LV cont)) := by
      obtain ⟨i0, hi0⟩ := tk.at_ Ib.t
      refine ed _ _ hcl fun q => ?_
      have := List.mem_singleton.mp q
      subst this
      exact tk.has Ia.t hcn
    obtain ⟨es, ep, g1, g2⟩ := Id.s
    have hlen : es.length ≤ 4 := by
      have := congrArg List.length g2.keys
      simp at this; omega
    refine set_dictS g1 (by omega) ?_
    intro ep'
    refine TS_nil ?_
    have e6 : Ex [Df] σd (upd σd Df (.dictS (storedA es pth (.tup [.str kd, .obj c])) ep')) := Ex.set (by simp)
    have no : ∀ {a : Addr} {o : AO}, σd a = some o → (∀ es ep, o ≠ .dictS es ep) → (upd σd Df (.dictS (storedA es pth (.tup [.str kd, .obj c])) ep')) a = some o := fun {a o} e n => e6 a o e fun q => by
      rw [List.mem_singleton.mp q, g1] at e; exact n _ _ (Option.some.inj e).symm
    refine ⟨trivial, w1, stB fs pth (kd, cont), kb + 1, w2.put (by omega) hpm hkm hcd, by have := stB_length fs pth (kd, cont); omega, ⟨tk.exs Id.t e6 (by simpa using nfl), no Id.c1 (by simp), ⟨_, ep', upd_self _ _ _, LFS.put (f := (kd, cont)) ⟨c, rfl, no hcl' (by simp)⟩ (g2.ex e6 fun a ha l q => ?_)⟩, ?_, ?_⟩, by omega⟩
    · rw [List.mem_singleton.mp ha, g1] at q; cases q
    · obtain ⟨ps, q⟩ := Id.p1; exact ⟨ps, no q (by simp)⟩
    · obtain ⟨ps, q⟩ := Id.p2; exact ⟨ps, no q (by simp)⟩
  · rw [List.length_range] at w3 w4
    clear I5 w1 nf1
    obtain ⟨wf, lwf, wfs⟩ := wfs_drawn w2
    obtain ⟨lg, wg⟩ := good_drawn w2
    have hlen : (pathsOf fs).length ≤ 4 := by rw [(paths_perm fs).length_eq, List.length_map]; exact w2.len
    show TS _ _ _ _ (execs (_ :: _) _) _ _ _
    refine TS_cons ?_
    refine TS_Assign (gc O (TL_cons (EV_cell rfl I.c1 (TL_nil ((shelf_spec (n := n + 5) O I.s lwf).mono ?_ fun _ _ z => z)))))
    rintro r σa ⟨x, D, rfl, shx, hx, hD, ea⟩
    rw [shelf_id w2] at shx
    have Ia := I.step tk ea
    have nD : D ≠ Df := fun q => by obtain ⟨_, _, g, _⟩ := I.s; rw [q, g] at hD; cases hD
    have nDl : D ∉ Dl := tk.out I.t hD
    clear ea hx I hD w3 w4
    refine SN_local ?_
    show TS _ _ _ _ (execs (_ :: _) _) _ _ _
    refine TS_cons ?_
    refine TS_Assign (bc O ?_)
    refine TL_cons ?_
    obtain ⟨es, ep, g1, g2⟩ := id Ia.s
    have hel : es.length = fs.length := by have := congrArg List.length g2.keys; simpa using this
    have hw2 := w2.len
    refine EV_ListComp (IT_val (bc O (TL_cons (EV_cell rfl Ia.c1 (TL_nil (sorted_dictS (n := n + 14) g1 (by omega) ?_))))))
    intro l hl
    rw [g2.keys]
    have el : Ex [] σa (upd σa l (.list ((sortS (fs.map (·.1))).map .str))) := Ex.new hl
    have hll : (upd σa l (.list ((sortS (fs.map (·.1))).map .str))) l = some (.list ((pathsOf fs).map .str)) := upd_self _ _ _
    have Ib := Ia.step tk el
    have shb := shx.ex0 el
    have gb := el.get g1
    generalize upd σa l (.list ((sortS (fs.map (·.1))).map .str)) = σb at el hll Ib shb gb ⊢
    have g2b := g2.ex el (by simp)
    refine ⟨_, _, goes_list hll, by rw [List.length_map]; omega, fun Cl => ?_⟩
    refine CmpW_each (fun σ' => σ' = σb) _ (fun p => .tup [.str p, .str (fileOf fs p).1, .tup (LV (fileOf fs p).2)]) (fun σ' e => by rw [e]; exact hll) (pathsOf fs) _ _ _ rfl (fun p hp ε σ' e => ?_) (fun σ' e => ?_)
    · subst e
      obtain ⟨hm, _⟩ := at_path w2 hp
      have hv := g2b.value (p := p)
      rw [vlB_nodup w2.nd hm] at hv
      obtain ⟨v, ev, c, rfl, hc⟩ := hv
      have hcl : (LV (fileOf fs p).2).length ≤ 1000000 := by have := LV_len (lfile_of lwf ((paths_perm fs).mem_iff.mp hp)).2.1; omega
      refine TA_Name (SN_local (TT_tests_nil ⟨rfl, ?_⟩))
      refine EV_Tuple ?_
      refine TL_cons (EV_local rfl ?_)
      refine TL_cons (EV_Sub (EV_Sub (EV_cell rfl Ib.c1 (EV_local rfl (sub_dictS gb ev (EV_int (sub_tup (j := 0) rfl rfl ?_)))))))
      refine TL_cons (bc O ?_)
      refine TL_cons (EV_Sub (EV_Sub (EV_cell rfl Ib.c1 (EV_local rfl (sub_dictS gb ev (EV_int (sub_tup (j := 1) rfl rfl ?_)))))))
      exact TL_nil (tuple_list hc hcl (TL_nil ⟨by simp, rfl, rfl⟩))
    subst e
    intro l2 hl2
    have e2 := Ex.new (S := []) (o := .list ([] ++ (pathsOf fs).map fun p => .tup [.str p, .str (fileOf fs p).1, .tup (LV (fileOf fs p).2)])) hl2
    refine TL_nil (tuple_list (upd_self _ _ _) (by simp; omega) ?_)
    rw [List.nil_append] at e2 ⊢
    have Ic := Ib.step tk e2
    have shc := shb.ex0 e2
    generalize upd σ' l2 (.list ((pathsOf fs).map fun p => .tup [.str p, .str (fileOf fs p).1, .tup (LV (fileOf fs p).2)])) = σc at Ic shc ⊢
    clear e2 el hll Ib shb gb g2b hl2 hl g1 g2 hel Ia shx
    refine SN_local ?_
    show TS _ _ _ (("told", .tup (toldL fs)) :: _) (execs (_ :: _) _) _ _ _
    refine TS_cons ?_
    refine TS_If (TT_BoolOp (TT_Or (TT_Compare ?_)))
    obtain ⟨d, es1, ep1, m1, m2, m3, m4⟩ := id shc
    refine EV_Method (EV_local rfl (sh_meth (f := 134) O m1 m2 (CW_nil (Kp_K O.ok (O.k (f := fun K => keepIn K _) (by k_is))) (OPL_call ((told_spec (n := n + 8) O shc wf).mono ?_ fun _ _ z => z)))))
    rintro r σd ⟨rfl, ed⟩
    rw [told_drawn w2]
    refine EV_local rfl (ne_tt (toldL_eq fs).1 (toldL_eq fs).2 ⟨_, rfl, ?_⟩)
    rw [if_neg (by simp)]
    have Id := Ic.step tk ed
    have shd := shc.ex0 ed
    clear ed Ic m1 m2 m3 m4
    refine TT_Or (TT_Compare ?_)
    obtain ⟨d, es1, ep1, m1, m2, m3, m4⟩ := id shd
    refine EV_Method (EV_local rfl (sh_meth (f := 84) O m1 m2 (CW_nil (Kp_K O.ok (O.k (f := fun K => keepIn K _) (by k_is))) (OPL_call ((paths_spec (n := n + 12) O shd (by omega)).mono ?_ fun _ _ z => z)))))
    rintro r σe ⟨l3, rfl, _, hl3, ee⟩
    have Ie := Id.step tk ee
    have she := shd.ex0 ee
    clear ee Id m1 m2 m3 m4
    obtain ⟨es, ep, g1, g2⟩ := id Ie.s
    have hel : es.length = fs.length := by have := congrArg List.length g2.keys; simpa using this
    refine bc O (TL_cons (EV_cell rfl Ie.c1 (TL_nil (sorted_dictS (n := n + 14) g1 (by omega) ?_))))
    intro l4 hl4
    rw [g2.keys]
    have n43 : l3 ≠ l4 := fun q => by rw [← q, hl3] at hl4; cases hl4
    have ef : Ex [] σe (upd σe l4 (.list ((sortS (fs.map (·.1))).map .str))) := Ex.new hl4
    refine ne_ll (l := (sortS (fs.map (·.1))).map .str) (by rw [upd_ne _ _ n43]; exact hl3) (upd_self _ _ _) (eqss_of fun x hx => ?_) (depths_of fun x hx => ?_) ⟨_, rfl, ?_⟩
    · obtain ⟨p, _, rfl⟩ := List.mem_map.mp hx; rfl
    · obtain ⟨p, _, rfl⟩ := List.mem_map.mp hx; exact Nat.zero_le _
    rw [if_neg (by simp)]
    have If_ := Ie.step tk ef
    have shf := she.ex0 ef
    generalize upd σe l4 (.list ((sortS (fs.map (·.1))).map .str)) = σf at If_ shf ⊢
    clear ef n43 hl4 hl3 g1 g2 hel Ie
    refine TT_Or (TT_Compare ?_)
    refine gc O (TL_cons (EV_local rfl (TL_nil ((write_spec (n := n + 3) (P := fun _ => True) O shf wf trivial).mono ?_ fun ax σ' z => absurd wg z.1))))
    rintro r σg ⟨_, rfl, eg⟩
    rw [laid_eq w2]
    have Ig := If_.step tk eg
    have shg := shf.ex0 eg
    clear eg If_
    refine gc O (TL_cons (EV_cell rfl Ig.c1 (TL_nil ((laid_spec (n := n + 5) O Ig.s lwf lg).mono ?_ fun _ _ z => z))))
    rintro r σh ⟨rfl, eh⟩
    have Ih := Ig.step tk eh
    have shh := shg.ex0 eh
    clear eh Ig
    refine ne_bb ⟨_, rfl, ?_⟩
    rw [if_neg (by simp)]
    refine TT_Or_nil ?_
    rw [if_neg (by simp)]
    refine TS_nil ?_
    show TS _ _ _ _ (execs (_ :: _) _) _ _ _
    clear shc shd she shf shg
    refine TS_cons ?_
    refine TS_If (TT_Compare ?_)
    refine EV_Method (gc O (TL_cons ?_))
    refine gc O (TL_cons (EV_cell rfl Ih.c1 (TL_nil ((laid_spec (n := n + 5) O Ih.s lwf lg).mono ?_ fun _ _ z => z))))
    rintro r σi ⟨rfl, ei⟩
    refine TL_nil ((read_spec (n := n + 1) O (b := laidB fs) (by have := laid_len w2; omega)).mono ?_ fun ax σ' z => ?_)
    rotate_left
    · obtain ⟨j, hj, _⟩ := z
      rw [read_laid w2] at hj; cases hj
    rintro r σj ⟨xr, Dr, fr, rfl, hr, shr, _, _, ej⟩
    rw [read_laid w2] at hr
    cases hr
    have Ij := (Ih.step tk ei).step tk ej
    have shj := (shh.ex0 ei).ex0 ej
    clear ei ej Ih shh
    obtain ⟨d, es1, ep1, m1, m2, m3, m4⟩ := id shr
    refine sh_meth (f := 134) O m1 m2 (CW_nil (Kp_K O.ok (O.k (f := fun K => keepIn K _) (by k_is))) (OPL_call ((told_spec (n := n + 8) O shr wfs).mono ?_ fun _ _ z => z)))
    rintro r σk ⟨rfl, ek⟩
    rw [told_srt w2]
    refine EV_local rfl (ne_tt (toldL_eq fs).1 (toldL_eq fs).2 ⟨_, rfl, ?_⟩)
    rw [if_neg (by simp)]
    have Ik := Ij.step tk ek
    have shk := shj.ex0 ek
    clear ek Ij shj m1 m2 m3 m4 shr
    refine TS_nil ?_
    show TS _ _ _ _ (execs (_ :: _) _) _ _ _
    obtain ⟨d, es1, ep1, m1, m2, m3, m4⟩ := id shk
    refine TS_cons ?_
    refine TS_Assign (EV_Method (EV_local rfl (sh_meth (f := 129) O m1 m2 (CW_nil (Kp_K O.ok (O.k (f := fun K => keepIn K _) (by k_is))) (OPL_call ((copied_spec (n := n + 5) O shk wf).mono ?_ fun _ _ z => z))))))
    rintro r σl ⟨xo, Do, rfl, hxo, hDo, sho, el⟩
    rw [copy_srt w2] at sho
    have Il := Ik.step tk el
    have shl := shk.ex0 el
    have nDo : D ≠ Do := fun q => by rw [← q, m3] at hDo; cases hDo
    clear el Ik shk m1 m2 m3 m4 hxo hDo
    refine SN_local ?_
    show TS _ _ _ _ (execs (_ :: _) _) _ _ _
    obtain ⟨es, ep, g1, g2⟩ := id Il.s
    have hkeys : keysS es = (fs.map (·.1)).map V.str := by unfold keysS; rw [← g2.keys, List.map_map]; rfl
    refine TS_cons ?_
    refine TS_For_it rfl (IT_val (EV_cell rfl Il.c1 ⟨_, _, goes_dict g1, ?_⟩))
    rw [hkeys]
    refine ForW_each (LwJ f Lp P1 P2 L Df x D xo Do T k' fs es ep) _ (fs.map (·.1)) (fun i p hp ε σ' ⟨z1, z2, z3, Iz, z4, z5, z6⟩ => ?_) (fun ε σ' ⟨z1, z2, z3, Iz, z4, z5, z6⟩ => ?_) ⟨rfl, rfl, rfl, Il, g1, shl, sho⟩
    · refine TA_Name (SN_local ?_)
      obtain ⟨d, es2, ep2, m1, m2, m3, m4⟩ := id z5
      refine TS_cons ?_
      refine TS_Expr (EV_Method (EV_Method (EV_local z1 (sh_meth (f := 105) O m1 m2 ?_))))
      refine CW_cons (TL_cons (EV_local rfl (TL_cons (EV_str ?_))))
      refine TL_nil ⟨Kp_K O.ok (O.k (f := fun K => keepIn K _) (by k_is)), OPL_call ((begin_spec (n := n + 9) (P := fun _ => True) (k := "sequential") O z5 (by rw [begun_len]; omega) (by decide) trivial).mono ?_ fun ax σ' z => absurd (by decide) z.1)⟩
      rintro r σm ⟨_, c, rfl, hc, hca, eD, hfin⟩
      have hcl : σm c = some (.list []) := hca
      refine meth_list slot_list_append type_list_append hcl ?_
      refine CW_cons (TL_cons (EV_bytes (TL_nil ⟨Kp_builtin, append_l hcl (by simp) ?_⟩)))
      refine TS_nil ?_
      have ec : Ex [c] σm (upd σm c (.list ([] ++ [.bytes [110, 101, 119].toArray]))) := Ex.set (by simp)
      have hnew := hfin _ (.seq [#[110, 101, 119]]) ec (upd_self _ _ _)
      generalize upd σm c (.list ([] ++ [.bytes [110, 101, 119].toArray])) = σn at ec hnew ⊢
      have e2 : Ex [D] σ' σn := Ex.fresh eD ec hc
      have In := Iz.beside tk e2 ⟨_, _, m3⟩ nD nDl
      refine ⟨e2 _ _ z4 (by simpa using Ne.symm nD), z1, z2, z3, In, e2 _ _ z4 (by simpa using Ne.symm nD), ?_, z6.ex e2 fun a ha => ?_⟩
      · have : begun fs ((fs.map (·.1)).take (i + 1)) = stB (begun fs ((fs.map (·.1)).take i)) p newC := by unfold begun; rw [foldl_take hp]
        rw [this]; exact hnew
      · rw [List.mem_singleton.mp ha]; exact ⟨nDo, .inr (.inl ⟨_, _, m3⟩)⟩
    rw [List.take_length] at z5
    clear Il shl sho g1 g2 hkeys
    show TS _ _ _ _ (execs (_ :: _) _) _ _ _
    refine TS_cons ?_
    refine TS_If (TT_Compare ?_)
    obtain ⟨d, es1, ep1, m1, m2, m3, m4⟩ := id z6
    refine EV_Method (EV_local z2 (sh_meth (f := 134) O m1 m2 (CW_nil (Kp_K O.ok (O.k (f := fun K => keepIn K _) (by k_is))) (OPL_call ((told_spec (n := n + 8) O z6 wfs).mono ?_ fun _ _ z => z)))))
    rintro r σo ⟨rfl, eo⟩
    rw [told_srt w2]
    refine EV_local z3 (ne_tt (toldL_eq fs).1 (toldL_eq fs).2 ⟨_, rfl, ?_⟩)
    rw [if_neg (by simp)]
    have Io := Iz.step tk eo
    have sho := z5.ex0 eo
    clear eo Iz z4 z5 z6 m1 m2 m3 m4
    refine TS_nil ?_
    show TS _ _ _ _ (execs (_ :: _) _) _ _ _
    refine TS_cons ?_
    refine TS_Return ?_
    refine EV_Compare ?_
    obtain ⟨d, es1, ep1, m1, m2, m3, m4⟩ := id sho
    refine EV_Method (EV_local z1 (sh_meth (f := 134) O m1 m2 (CW_nil (Kp_K O.ok (O.k (f := fun K => keepIn K _) (by k_is))) (OPL_call ((told_spec (n := n + 8) O sho (wf_begun w2)).mono ?_ fun _ _ z => z)))))
    rintro r σp ⟨rfl, ep⟩
    rw [told_begun]
    have Ip := Io.step tk ep
    clear ep Io sho m1 m2 m3 m4
    refine bc O (TL_cons ?_)
    obtain ⟨es, ep, g1, g2⟩ := id Ip.s
    have hel : es.length = fs.length := by have := congrArg List.length g2.keys; simpa using this
    refine EV_ListComp (IT_val (bc O (TL_cons (EV_cell rfl Ip.c1 (TL_nil (sorted_dictS (n := n + 14) g1 (by omega) ?_))))))
    intro l5 hl5
    rw [g2.keys]
    have e5 : Ex [] σp (upd σp l5 (.list ((sortS (fs.map (·.1))).map .str))) := Ex.new hl5
    have hll : (upd σp l5 (.list ((sortS (fs.map (·.1))).map .str))) l5 = some (.list ((pathsOf fs).map .str)) := upd_self _ _ _
    have Iq := Ip.step tk e5
    generalize upd σp l5 (.list ((sortS (fs.map (·.1))).map .str)) = σq at hll Iq ⊢
    refine ⟨_, _, goes_list hll, by rw [List.length_map]; omega, fun Cl => ?_⟩
    refine CmpW_each (fun σ' => σ' = σq) _ (fun p => .tup [.str p, .str "sequential", .tup [.bytes #[110, 101, 119]]]) (fun σ' e => by rw [e]; exact hll) (pathsOf fs) _ _ _ rfl (fun p hp ε σ' e => ?_) (fun σ' e => ?_)
    · subst e
      refine TA_Name (SN_local (TT_tests_nil ⟨rfl, ?_⟩))
      refine EV_Tuple ?_
      refine TL_cons (EV_local rfl ?_)
      refine TL_cons (EV_str ?_)
      refine TL_cons (EV_Tuple (TL_cons (EV_bytes (TL_nil ⟨by simp, ?_⟩))))
      exact TL_nil ⟨by simp, rfl, rfl⟩
    subst e
    intro l6 hl6
    refine TL_nil (tuple_list (upd_self _ _ _) (by simp; omega) ?_)
    rw [List.nil_append]
    have Ir := Iq.step tk (Ex.new (S := []) (o := .list ((pathsOf fs).map fun p => .tup [.str p, .str "sequential", .tup [.bytes #[110, 101, 119]]])) hl6)
    refine eq_tt (eqss_of fun y hy => ?_) (depths_of fun y hy => ?_) ⟨rfl, Ir.p1, Ir.p2⟩
    · obtain ⟨p, _, rfl⟩ := List.mem_map.mp hy; rfl
    · obtain ⟨p, _, rfl⟩ := List.mem_map.mp hy
      simp [V.depth, V.depths]
end
end Mine
end
section
open PySem PySem.W PyProof.Rows PySem.Calls PySem.Spec
set_option Elab.async false
set_option maxRecDepth 100000
set_option maxHeartbeats 0
namespace Mine
theorem end_of {p : Program} {loose : List Str} {mean : ExcName → Option Value} {mg mb : Str → Option Value} {w : World} {s₁ : Shared} {fa a : Addr} {vs : List Value} {zs : List Int} {c : ClaimW} {cl : Str → Option Addr} {args : List WData}
    (KX : (hd.heap_1 w.params).In s₁.heap) (hT : TabsAt [(296, 292), (251, 247)] s₁.heap) (T : Top p loose mean mg mb s₁.heap) (hmg : mg "law" = some (.ref fa)) (hg : s₁.gens = #[])
    (hl : s₁.heap.IsList a vs.toArray) (hi : IntsAre vs zs) (hz : zs.length ≤ 1000) (hn : ∀ cls, c.raises args cls = false) (hp : c.post args (.bool true) args = true) :
    codeAny (model PySem.Challenge.rw_og0085_01.row.prog w) callerA (.call (.ref fa) { pos := [.ref a] })
      (fun r s' => GoodW c cl mean args { s₁ with heap := ghostOf s₁.heap [(296, 292), (251, 247)] } r s' ∧ GrownAll [(296, 292), (251, 247)] s'.heap) s₁ := by
  have hK : noTabs (hd.heap_1 w.params) = true := by kernel_rfl
  have e := mg_of (n := "law") (v := .ref 302) KX T.g (by k_is)
  rw [hmg] at e
  cases e
  obtain ⟨lo, TG⟩ : ∃ lo, Top topProg lo mean mg mb (ghostOf s₁.heap [(296, 292), (251, 247)]) := ⟨_, ghost_top hT T⟩
  let C : Cx := { prog := PySem.Challenge.rw_og0085_01.row.prog, w := w, KP := hd.heap_1, H := ghostOf s₁.heap [(296, 292), (251, 247)], p := topProg, loose := lo, mean := mean, mg := mg, mb := mb, os := s₁.os }
  have O : L1 C := ⟨⟨ghost_K hT KX hK, TG⟩, rfl⟩
  obtain ⟨c2, c1, -⟩ : CodeAll [(296, 292), (251, 247)] C.H := ghost_code hT
  let σ : Store := upd (upd (fun _ => none) 292 (.raw (tabObj #[]))) 247 (.raw (tabObj #[]))
  have hσ : ∀ b o, σ b = some o → (b = 292 ∨ b = 247) ∧ o = .raw (tabObj #[]) := fun b o e => by
    simp only [σ, upd] at e
    split at e
    · cases e; exact ⟨.inr ‹_›, rfl⟩
    · split at e
      · cases e; exact ⟨.inl ‹_›, rfl⟩
      · cases e
  have S : St C (fun _ => none) σ s₁ := {
    base := fun b o e => of_hideAll _ e
    gs := fun b o e => nomatch e
    gt := fun b o e => nomatch e
    sim := fun b o e => by
      obtain ⟨rfl | rfl, rfl⟩ := hσ b o e
      · exact (hT _ (.head _)).2
      · exact (hT _ (.tail _ (.head _))).2
    gσ := fun _ _ => rfl
    hσ := fun b e => by
      cases q : σ b with
      | none => exact absurd q e
      | some o =>
        obtain ⟨rfl | rfl, -⟩ := hσ b o q
        · exact hideAll_none _ (.head _)
        · exact hideAll_none _ (.tail _ (.head _))
    gh := fun b e => absurd rfl e
    gens := hg
    os := rfl }
  refine codeAny_mono (law_spec (n := 0) (σ := σ) (X := fun _ _ => False) O (sc := a) (zs := zs) ⟨vs, ghost_list hT hl, hi⟩ hz c1 c2 (by simp [σ, upd]) (by simp [σ, upd]) (by decide) callerA (fun _ => none) s₁ [.ref a] ?_ S ?_) ?_
  · exact { handled := .inl rfl, depth := by decide, units := by decide, frames := ⟨[], rfl, fun _ h => absurd h List.not_mem_nil, fun _ h => nomatch h⟩ }
  · exact .cons rv_obj .nil
  · intro r s' h
    unfold RC at h
    split at h
    · obtain ⟨x, σ', S', -, rv, rfl, ⟨p1, q1⟩, p2, q2⟩ := h
      rw [show _ = Value.bool true from rv]
      refine ⟨⟨.inl ⟨.bool true, .bool true, [], rfl, hn, .bool true, hp, unshared_nil⟩, S'.base, S'.os, S'.gens⟩, ⟨p2, S'.sim _ _ q2⟩, ⟨p1, S'.sim _ _ q1⟩, trivial⟩
    · exact h.elim
    · obtain ⟨_, _, _, _, _, _, hf⟩ := h
      exact hf.elim
end Mine
end
section
open PySem PySem.W PyProof.Rows
set_option Elab.async false
set_option maxRecDepth 100000
set_option maxHeartbeats 0
namespace Mine
end Mine
theorem PySem.Challenge.cw_og0085_01_holds : PySem.Challenge.rw_og0085_01.Holds :=
  Mine.hd (by
  k_fill
  intro w s₀ s₁ mg mb G Y fa o pm cd doc dV kV ho hd hcd hD hmg hg args vals as hpre hlay hrd hwl hlo
  have KX := km_in_of Y
  km_tabs Y
  have X := (Ground.X G).1
  have V := (Ground.X G).2
  refine Ground.open G ?_
  intro T B D TE TW
  try (refine guard_noD D (by decide +kernel) ?_; clear D)
  km_lay T hmg ho hd cd
  wrow_args hpre hlay hrd hwl hlo
  all_goals (
    first | refine callC_kw (enter_call ?_) | refine enter_call ?_
    w_top on
    kn_posts
    refine Mine.end_of KX ‹_› T (show mg "law" = _ from hmg) hg ‹_› ‹_› ?_ (raisesW_false (by wrow_none_raised)) (by wrow_post)
    omega))
end
