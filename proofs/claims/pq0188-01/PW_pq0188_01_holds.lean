import PyProof.Rows.All
import Wide.All
import OpenK.AllK
import Wide.FinOn
import PySem.Challenge.RW_pq0188_01
set_option Elab.async false

section
open PySem PySem.W PyProof.Rows
namespace Mine
/-- the top's run over a tree of objects, by a test and a step that are handed in -/
def runG (ok : Thread → Bool) (st : SharedT → Thread → Option (SharedT × Thread)) : Nat → SharedT → Thread → Option SharedT
  | 0, _, _ => none
  | n + 1, s, t => match through t with
    | true => some s
    | false => match ok t with
      | false => none
      | true => match st s t with
        | some (s', t') => runG ok st n s' t'
        | none => none
theorem runG_of {p : Program} {w : World} {n₀ : Nat} {ann : Option Value} : ∀ {n : Nat} {s r : SharedT} {t : Thread}, runG (stepOk n₀ ann) (stepT (denote treeTable) p w) n s t = some r → topRun treeTable p w n₀ ann n s.abs t = some r.abs
  | 0, _, _, _, h => by cases h
  | n + 1, s, r, t, h => by
    unfold runG at h
    unfold topRun
    cases ht : through t with
    | true => rw [ht] at h; cases h; rfl
    | false =>
      rw [ht] at h
      cases hk : stepOk n₀ ann t with
      | false => rw [hk] at h; cases h
      | true =>
        rw [hk] at h
        cases hs : stepT (denote treeTable) p w s t with
        | none => rw [hs] at h; cases h
        | some q => obtain ⟨s', t'⟩ := q; rw [hs] at h; dsimp only; rw [stepT_spec hs]; exact runG_of h
def treeOf : List Obj → Nat → BT → BT
  | [], _, t => t
  | o :: l, n, t => treeOf l (n + 1) (t.ins n o)
/-- where the library's own start-up leaves off -/
noncomputable abbrev bootT (P : Params) (os : OsState) : SharedT := ⟨treeOf (boot_heap P).objs.toList 0 .nil, (boot_heap P).objs.size, (boot_heap P).life, Array.mk [], boot_drawn, boot_toks, os⟩
theorem bootT_abs (P : Params) (os : OsState) : (bootT P os).abs = ⟨boot_heap P, Array.mk [], boot_drawn, boot_toks, os⟩ := by kernel_rfl
section
variable {p p' : Program} {keep : List Nat} {loose : List Str} {Xt : Shared → Bool} {Xt' : Program → Shared → Bool} {α : Type} {Yf : Shared → α} {Ya : World → α} {N : Nat} {O P D T M}
/-- the top's end, by quick words -/
noncomputable abbrev endOf (O : Nat → Option Value → Thread → Bool) (P : (Code → Sem Fin) → Program → World → SharedT → Thread → Option (SharedT × Thread)) (D : (String → Option Builtin) → Code → Sem Fin) (T : String → Option Builtin) (M : Heap → Addr → Str → Option Value) (p : Program) (N : Nat) (w : World) (os : OsState) : Option SharedT :=
  runG (O (boot_heap w.params).objs.size (M (boot_heap w.params) mainGlobals "__annotations__")) (P (D T) p w) N (bootT w.params os) (topStub p)
/-- the head's checks after the start-up, each by the library's quick words -/
theorem left_boot {I Rc Dr Lw Sn Pd Pe Ws Cs} (ep : p = p') (hx : Xt = Xt' p) (eO : @stepOk = O) (eP : @stepT = P) (eD : @denote = D) (eT : treeTable = T) (eM : @Heap.nsMap = M)
    (eI : @importedModules = I) (eRc : @recsOf = Rc) (eDr : @drecsOf = Dr) (eLw : @looseW = Lw) (eSn : @seen = Sn) (ePd : @pinSeenD = Pd) (ePe : @plainSeenE = Pe) (eWs : @wideSeen = Ws) (eCs : @clsSeenW = Cs)
    (e : opening p = plainProg p.main.scope.names) (hN : Nat.ble 600 N = true) (f : ∀ s, fenceModules? p s = some s) (hns : ∀ P, (boot_heap P).isNs mainGlobals = true)
    (h1 : ∀ w : World, (fun os : OsState => (endOf O P D T M p' N w os).map fun t => let s := t.abs; ((staticsOk (I p'.main.body) (boot_heap w.params) s.heap && namesBound p' s.heap && gensDone s && laidKept (boot_heap w.params) s.heap), Yf s, s.heap.bltView)) = fun _ => some (true, Ya w, bltViewBooted))
    (h2 : ∀ w : World, (fun os : OsState => (endOf O P D T M p' N w os).map fun t => let s := t.abs; Sn ((Rc (PySem.W.view p' keep)).map (·.name)) (ownsOf (PySem.W.view p' keep)) [] { s with gens := #[] }) = fun _ => some (expectedOf (PySem.W.view p' keep)))
    (h3 : ∀ w : World, (fun os : OsState => (endOf O P D T M p' N w os).map fun t => let s := t.abs; (s.heap.keysOk (Lw (PySem.W.view p' keep) loose) ((Rc (PySem.W.view p' keep)).map (·.name)) ((litsOf (PySem.W.view p' keep)).map (·.1)) ((clssOf (PySem.W.view p' keep) (Lw (PySem.W.view p' keep) loose)).map (·.name)) && s.heap.accountedOkI (I p'.main.body) && s.heap.isNs mainGlobals && s.heap.isNs builtinsNs && tablesOk (PySem.W.view p' keep) s.heap && Xt' p' s && (if true then s.gens.size == 0 else !leftWithCleanup s.gens),
      tabsOk (PySem.W.view p' keep) s)) = fun _ => some (true, true))
    (h4 : ∀ w : World, (fun os : OsState => (endOf O P D T M p' N w os).map fun t => let s := t.abs; (Pd (PySem.W.view p' keep) (Dr (PySem.W.view p' keep)) s, Pe (PySem.W.view p' keep) (Lw (PySem.W.view p' keep) loose) s, plainSeenD (PySem.W.view p' keep) loose s, Ws (PySem.W.view p' keep) s, Cs (PySem.W.view p' keep) loose s)) =
      fun _ => some (pinGoodD (Dr (PySem.W.view p' keep)), plainGoodE (PySem.W.view p' keep) (Lw (PySem.W.view p' keep) loose), plainGoodD (PySem.W.view p' keep) loose, wideGood (PySem.W.view p' keep), clsGoodW (PySem.W.view p' keep) loose)) :
    LeftO p (PySem.W.view p keep) loose Xt Yf Ya N := fun w => by
  subst ep hx eO eP eD eT eM eI eRc eDr eLw eSn ePd ePe eWs eCs
  obtain ⟨⟨hh, gs, d, k, os⟩, e1, e2⟩ := Option.map_eq_some_iff.mp (boot_open e hN f w)
  obtain ⟨rfl, rfl, rfl, rfl⟩ : hh = boot_heap w.params ∧ gs = Array.mk [] ∧ d = boot_drawn ∧ k = boot_toks := by simpa using e2
  obtain ⟨t, q, q1⟩ := Option.map_eq_some_iff.mp (congrFun (h1 w) os)
  have q2 := congrFun (h2 w) os
  have q3 := congrFun (h3 w) os
  have q4 := congrFun (h4 w) os
  dsimp only at q2 q3 q4
  rw [q] at q2 q3 q4
  have r := runG_of q
  rw [bootT_abs] at r
  obtain ⟨l1, l2, l3⟩ : _ ∧ _ ∧ _ := by simpa only [Prod.mk.injEq] using q1
  obtain ⟨l5, l6⟩ := Prod.mk.inj (Option.some.inj q3)
  unfold openEnds
  rw [e1]
  show (topFrom treeTable p w N _).map _ = _
  unfold topFrom
  dsimp only
  rw [hns, r]
  show ((match staticsOk (importedModules p.main.body) (boot_heap w.params) t.abs.heap && namesBound p t.abs.heap && gensDone t.abs && laidKept (boot_heap w.params) t.abs.heap with | true => _ | false => _ : Option Shared)).map _ = _
  rw [l1]
  refine congrArg some (Prod.ext ?_ l2)
  exact Prod.ext (Option.some.inj q2) (Prod.ext l3 (Prod.ext l5 (Prod.ext l6 (Option.some.inj q4))))
end
/-- the statements of the text that bind a name -/
def kept : List Nat := [1, 3, 5, 6, 7, 8, 9, 10, 11, 12, 14, 15, 16, 17, 18, 19, 20, 21, 22, 23, 24, 25, 26, 27, 29, 30, 31, 32, 33, 35, 36, 37]
noncomputable abbrev seenOf (p : Program) : Program := PySem.W.view p kept
noncomputable abbrev view : Program := seenOf PySem.Challenge.pw_pq0188_01

/-- a look at the text by the library's quick words -/
theorem statements : (PySem.Challenge.pw_pq0188_01.main.body.length == 38) = true := by k_qdec
set_option maxRecDepth 100000 in
theorem look_defs : ∀ w : World, (fun os : OsState => (endOf PySem.W.Fast.tw6613529449190102663 PySem.W.Fast.tw10156331382660048174 PySem.W.Fast.tw11892475500146522536 PySem.W.Fast.tw14364793385576792824 PySem.W.Fast.tw8920871248978507458 PySem.W.Fast.tw2354546940950727397 2438 w os).map fun t => let s := t.abs; PySem.W.Fast.tw5160383126252970620 ((PySem.W.Fast.tw3399658132070893891 (seenOf PySem.W.Fast.tw2354546940950727397)).map (·.name)) (ownsOf (seenOf PySem.W.Fast.tw2354546940950727397)) [] { s with gens := #[] }) = fun _ => some (expectedOf (seenOf PySem.W.Fast.tw2354546940950727397)) := fun w => by kernel_rfl
set_option maxRecDepth 100000 in
theorem look_names : ∀ w : World, (fun os : OsState => (endOf PySem.W.Fast.tw6613529449190102663 PySem.W.Fast.tw10156331382660048174 PySem.W.Fast.tw11892475500146522536 PySem.W.Fast.tw14364793385576792824 PySem.W.Fast.tw8920871248978507458 PySem.W.Fast.tw2354546940950727397 2438 w os).map fun t => let s := t.abs; (s.heap.keysOk (PySem.W.Fast.tw821141287760084731 (seenOf PySem.W.Fast.tw2354546940950727397) []) ((PySem.W.Fast.tw3399658132070893891 (seenOf PySem.W.Fast.tw2354546940950727397)).map (·.name)) ((litsOf (seenOf PySem.W.Fast.tw2354546940950727397)).map (·.1)) ((clssOf (seenOf PySem.W.Fast.tw2354546940950727397) (PySem.W.Fast.tw821141287760084731 (seenOf PySem.W.Fast.tw2354546940950727397) [])).map (·.name)) && s.heap.accountedOkI (PySem.W.Fast.tw5923862056798008813 PySem.W.Fast.tw2354546940950727397.main.body) && s.heap.isNs mainGlobals && s.heap.isNs builtinsNs && tablesOk (seenOf PySem.W.Fast.tw2354546940950727397) s.heap && (xlAt (seenOf PySem.W.Fast.tw2354546940950727397) [] s && recOk [] s) && (if true then s.gens.size == 0 else !leftWithCleanup s.gens),
    tabsOk (seenOf PySem.W.Fast.tw2354546940950727397) s)) = fun _ => some (true, true) := fun w => by kernel_rfl
set_option maxRecDepth 100000 in
theorem look_rest : ∀ w : World, (fun os : OsState => (endOf PySem.W.Fast.tw6613529449190102663 PySem.W.Fast.tw10156331382660048174 PySem.W.Fast.tw11892475500146522536 PySem.W.Fast.tw14364793385576792824 PySem.W.Fast.tw8920871248978507458 PySem.W.Fast.tw2354546940950727397 2438 w os).map fun t => let s := t.abs; (PySem.W.Fast.tw16090120013241838585 (seenOf PySem.W.Fast.tw2354546940950727397) (PySem.W.Fast.tw3247288618530077131 (seenOf PySem.W.Fast.tw2354546940950727397)) s, PySem.W.Fast.tw2386780881361962483 (seenOf PySem.W.Fast.tw2354546940950727397) (PySem.W.Fast.tw821141287760084731 (seenOf PySem.W.Fast.tw2354546940950727397) []) s, plainSeenD (seenOf PySem.W.Fast.tw2354546940950727397) [] s, PySem.W.Fast.tw7317090234206586261 (seenOf PySem.W.Fast.tw2354546940950727397) s, PySem.W.Fast.tw7369524293546568484 (seenOf PySem.W.Fast.tw2354546940950727397) [] s)) =
    fun _ => some (pinGoodD (PySem.W.Fast.tw3247288618530077131 (seenOf PySem.W.Fast.tw2354546940950727397)), plainGoodE (seenOf PySem.W.Fast.tw2354546940950727397) (PySem.W.Fast.tw821141287760084731 (seenOf PySem.W.Fast.tw2354546940950727397) []), plainGoodD (seenOf PySem.W.Fast.tw2354546940950727397) [], wideGood (seenOf PySem.W.Fast.tw2354546940950727397), clsGoodW (seenOf PySem.W.Fast.tw2354546940950727397) []) := fun w => by kernel_rfl

set_option hygiene false in
local macro_rules | `(tactic| o_head $H) => `(tactic| (
  refine holds_open (q := view) (loose := []) (Xt := fun s => xlAt view [] s && recOk (RowW.records (OpenRow.toRowW (OpenLaw.row PySem.Challenge.rw_pq0188_01))) s) (XP := XL view []) (Yf := Hook.obs $H) (Ya := Hook.val $H) (YP := Hook.says $H) (N := 2438) ?hl (Hook.of $H) (Hook.keeps $H) (fun s e => xl_of s (Bool.and_eq_true_iff.mp e).1) XL.keeps (by rfl) (by rfl) (by rfl) (fun s e => recFacts_of (Bool.and_eq_true_iff.mp e).2) (by kernel_rfl) (by assumption) (by decide +kernel) ⟨rfl, rfl, rfl, rfl, rfl, by decide +kernel⟩ ?hw ?hc
  case hl => exact left_boot (p := PySem.Challenge.pw_pq0188_01) (Xt' := fun p s => xlAt (seenOf p) [] s && recOk [] s) PySem.W.Fast.te2354546940950727397 rfl PySem.W.Fast.te6613529449190102663 PySem.W.Fast.te10156331382660048174 PySem.W.Fast.te11892475500146522536 PySem.W.Fast.te14364793385576792824 PySem.W.Fast.te8920871248978507458 PySem.W.Fast.te5923862056798008813 PySem.W.Fast.te3399658132070893891 PySem.W.Fast.te3247288618530077131 PySem.W.Fast.te821141287760084731 PySem.W.Fast.te5160383126252970620 PySem.W.Fast.te16090120013241838585 PySem.W.Fast.te2386780881361962483 PySem.W.Fast.te7317090234206586261 PySem.W.Fast.te7369524293546568484 (by kernel_rfl) (by decide) (fun _ => rfl) (fun P => by kernel_rfl) (fun w => by kernel_rfl) look_defs look_names look_rest))
set_option maxRecDepth 100000 in
set_option maxHeartbeats 8000000 in
open_top hd for PySem.Challenge.rw_pq0188_01
end Mine
end

section
open PySem PySem.Calls PyProof.Rows PySem.W
namespace Mine

inductive V where
  | int (i : Int)
  | bool (b : Bool)
  | none
  | str (s : Str)
  | tup (l : List V)
  | lst (l : List V)
  | mt (a : Addr)
  | fn (o : Obj)

abbrev Mu := Addr → Option (List V)
def dom (μ : Mu) (a : Addr) : Prop := ∃ l, μ a = some l

abbrev tupObj (vs : Array Value) (n : Nat) : Obj := { cls := .type "tuple", data := .seq vs n }
abbrev lstObj (vs : Array Value) (n : Nat) : Obj := { cls := .type "list", data := .seq vs n }

mutual
def Rep (X : Addr → Prop) (h : Heap) : V → Value → Prop
  | .int i, r => ∃ t, r = .int i t
  | .bool b, r => r = .bool b
  | .none, r => r = .none
  | .str s, r => ∃ t, r = .str s t
  | .tup l, r => ∃ a vs n, r = .ref a ∧ ¬ X a ∧ h.get? a = some (tupObj vs n) ∧ Reps X h l vs.toList
  | .lst l, r => ∃ a vs n, r = .ref a ∧ ¬ X a ∧ h.get? a = some (lstObj vs n) ∧ Reps X h l vs.toList
  | .mt a, r => r = .ref a
  | .fn o, r => ∃ a, r = .ref a ∧ ¬ X a ∧ h.get? a = some o ∧ ∃ fd, o.data = .func fd
def Reps (X : Addr → Prop) (h : Heap) : List V → List Value → Prop
  | [], vs => vs = []
  | x :: l, vs => ∃ r rs, vs = r :: rs ∧ Rep X h x r ∧ Reps X h l rs
end

def Solid (o : Obj) : Prop := (∃ vs n, o.data = .seq vs n) ∨ ∃ fd, o.data = .func fd

def Trans (X : Addr → Prop) (h : Heap) (X' : Addr → Prop) (h' : Heap) : Prop :=
  ∀ a o, Solid o → ¬ X a → h.get? a = some o → ¬ X' a ∧ h'.get? a = some o

mutual
theorem Rep.mono {X X' : Addr → Prop} {h h' : Heap} (T : Trans X h X' h') : ∀ (x : V) (r : Value), Rep X h x r → Rep X' h' x r
  | .int _, _, q => q
  | .bool _, _, q => q
  | .none, _, q => q
  | .str _, _, q => q
  | .mt _, _, q => q
  | .tup l, _, ⟨a, vs, n, e, nx, g, q⟩ => ⟨a, vs, n, e, (T a _ (.inl ⟨_, _, rfl⟩) nx g).1, (T a _ (.inl ⟨_, _, rfl⟩) nx g).2, Reps.mono T l _ q⟩
  | .lst l, _, ⟨a, vs, n, e, nx, g, q⟩ => ⟨a, vs, n, e, (T a _ (.inl ⟨_, _, rfl⟩) nx g).1, (T a _ (.inl ⟨_, _, rfl⟩) nx g).2, Reps.mono T l _ q⟩
  | .fn _, _, ⟨a, e, nx, g, fd, q⟩ => ⟨a, e, (T a _ (.inr ⟨_, q⟩) nx g).1, (T a _ (.inr ⟨_, q⟩) nx g).2, fd, q⟩
theorem Reps.mono {X X' : Addr → Prop} {h h' : Heap} (T : Trans X h X' h') : ∀ (l : List V) (rs : List Value), Reps X h l rs → Reps X' h' l rs
  | [], _, q => q
  | x :: l, _, ⟨r, rs, e, q1, q2⟩ => ⟨r, rs, e, Rep.mono T x r q1, Reps.mono T l rs q2⟩
end

section
variable {X : Addr → Prop} {h : Heap}
theorem Reps.nil : Reps X h [] [] := rfl
theorem Reps.cons {x : V} {l : List V} {r : Value} {rs : List Value} (a : Rep X h x r) (b : Reps X h l rs) : Reps X h (x :: l) (r :: rs) := ⟨r, rs, rfl, a, b⟩
theorem Reps.length : ∀ {l : List V} {rs : List Value}, Reps X h l rs → rs.length = l.length
  | [], _, rfl => rfl
  | _ :: _, _, ⟨_, _, rfl, _, q⟩ => by simp [Reps.length q]
theorem Reps.get : ∀ {l : List V} {rs : List Value} {i : Nat} {x : V}, Reps X h l rs → l[i]? = some x → ∃ r, rs[i]? = some r ∧ Rep X h x r
  | _ :: _, _, 0, _, ⟨r, _, rfl, q, _⟩, e => by cases e; exact ⟨r, rfl, q⟩
  | _ :: _, _, i + 1, _, ⟨_, _, rfl, _, q⟩, e => by
    obtain ⟨r, e1, e2⟩ := Reps.get (i := i) q (by simpa using e)
    exact ⟨r, by simpa using e1, e2⟩
theorem Reps.append : ∀ {l l' : List V} {rs rs' : List Value}, Reps X h l rs → Reps X h l' rs' → Reps X h (l ++ l') (rs ++ rs')
  | [], _, _, _, rfl, q => q
  | _ :: _, _, _, _, ⟨r, rs, rfl, q1, q2⟩, q => ⟨r, _, rfl, q1, Reps.append q2 q⟩
theorem Reps.reverse : ∀ {l : List V} {rs : List Value}, Reps X h l rs → Reps X h l.reverse rs.reverse
  | [], _, rfl => rfl
  | _ :: _, _, ⟨_, _, rfl, q1, q2⟩ => by
    rw [List.reverse_cons, List.reverse_cons]
    exact Reps.append (Reps.reverse q2) (Reps.cons q1 Reps.nil)
theorem Reps.set : ∀ {l : List V} {rs : List Value} (i : Nat) {x : V} {r : Value}, Reps X h l rs → Rep X h x r → Reps X h (l.set i x) (rs.set i r)
  | [], _, _, _, _, rfl, _ => rfl
  | _ :: _, _, 0, _, _, ⟨_, _, rfl, _, q2⟩, q => ⟨_, _, rfl, q, q2⟩
  | _ :: _, _, i + 1, _, _, ⟨_, _, rfl, q1, q2⟩, q => ⟨_, _, rfl, q1, Reps.set i q2 q⟩
theorem Reps.take : ∀ {l : List V} {rs : List Value} (i : Nat), Reps X h l rs → Reps X h (l.take i) (rs.take i)
  | _, _, 0, _ => by rw [List.take_zero, List.take_zero]; rfl
  | [], _, _ + 1, rfl => rfl
  | _ :: _, _, i + 1, ⟨_, _, rfl, q1, q2⟩ => ⟨_, _, rfl, q1, Reps.take i q2⟩
theorem Reps.replicate {x : V} {r : Value} (q : Rep X h x r) : ∀ n, Reps X h (List.replicate n x) (List.replicate n r)
  | 0 => rfl
  | n + 1 => ⟨_, _, rfl, q, Reps.replicate q n⟩
theorem Reps.cons_inv {x : V} {l : List V} {rs : List Value} (q : Reps X h (x :: l) rs) : ∃ r rs', rs = r :: rs' ∧ Rep X h x r ∧ Reps X h l rs' := q
theorem Reps.nil_inv {rs : List Value} (q : Reps X h [] rs) : rs = [] := q
end

/-- the static ground -/
structure Gd (mg mb : Str → Option Value) (K : Frag) (h₀ : Heap) : Prop where
  g : h₀.Ns mainGlobals mg
  b : h₀.Ns builtinsNs mb
  nolimit : h₀.NoLimit
  seer : h₀.NoSeer
  X : K.In h₀
  blt : ∀ x : Str, x ≠ "__name__" → mb x = bootBuiltins x

def Ext (h₀ h : Heap) : Prop := ∀ b o, h₀.get? b = some o → h.get? b = some o

structure MuOk (h₀ : Heap) (μ : Mu) (h : Heap) : Prop where
  at_ : ∀ a l, μ a = some l → ∃ vs n, h.get? a = some (lstObj vs n) ∧ Reps (dom μ) h l vs.toList
  new : ∀ a, dom μ a → h₀.get? a = none

/-- what an evaluation may do -/
structure Res (h₀ : Heap) (μ : Mu) (s : Shared) (μ' : Mu) (s' : Shared) : Prop where
  same : ∃ h tk, s' = { s with heap := h, toks := tk }
  keep : ∀ b o, ¬ dom μ b → s.heap.get? b = some o → s'.heap.get? b = some o
  mu : MuOk h₀ μ' s'.heap
  grow : ∀ a, dom μ a → dom μ' a
  fresh : ∀ a, dom μ' a → ¬ dom μ a → s.heap.get? a = none

theorem MuOk.notDict {h₀ h : Heap} {μ : Mu} (M : MuOk h₀ μ h) {a : Addr} {m} (n : h.Ns a m) : ¬ dom μ a := fun ⟨l, e⟩ => by
  obtain ⟨vs, k, g, _⟩ := M.at_ a l e
  obtain ⟨o, es, ep, g', d, _⟩ := n
  rw [g] at g'; cases g'; cases d
theorem MuOk.notCell {h₀ h : Heap} {μ : Mu} (M : MuOk h₀ μ h) {a : Addr} {v} (n : h.IsCell a v) : ¬ dom μ a := fun ⟨l, e⟩ => by
  obtain ⟨vs, k, g, _⟩ := M.at_ a l e
  obtain ⟨o, g', d⟩ := n
  rw [g] at g'; cases g'; cases d
theorem MuOk.none {h₀ h : Heap} : MuOk h₀ (fun _ => Option.none) h := ⟨fun _ _ e => (nomatch e), fun _ ⟨_, e⟩ => (nomatch e)⟩

theorem Res.trans_ {h₀ : Heap} {μ μ' : Mu} {s s' : Shared} (R : Res h₀ μ s μ' s') : Trans (dom μ) s.heap (dom μ') s'.heap := fun a o _ nx g =>
  ⟨fun d => (by have := R.fresh a d nx; rw [g] at this; cases this), R.keep a o nx g⟩
theorem Rep.res {h₀ : Heap} {μ μ' : Mu} {s s' : Shared} (R : Res h₀ μ s μ' s') {x : V} {r : Value} (q : Rep (dom μ) s.heap x r) : Rep (dom μ') s'.heap x r := Rep.mono R.trans_ x r q
theorem Reps.res {h₀ : Heap} {μ μ' : Mu} {s s' : Shared} (R : Res h₀ μ s μ' s') {x : List V} {r : List Value} (q : Reps (dom μ) s.heap x r) : Reps (dom μ') s'.heap x r := Reps.mono R.trans_ x r q
theorem Res.ext {h₀ : Heap} {μ μ' : Mu} {s s' : Shared} (R : Res h₀ μ s μ' s') (M : MuOk h₀ μ s.heap) (G : Ext h₀ s.heap) : Ext h₀ s'.heap := fun b o e =>
  R.keep b o (fun d => by have := M.new b d; rw [e] at this; cases this) (G b o e)
theorem Res.refl {h₀ : Heap} {μ : Mu} {s : Shared} (M : MuOk h₀ μ s.heap) : Res h₀ μ s μ s := ⟨⟨_, _, rfl⟩, fun _ _ _ e => e, M, fun _ d => d, fun _ d n => absurd d n⟩
theorem Res.trans {h₀ : Heap} {μ μ' μ'' : Mu} {s s' s'' : Shared} (R : Res h₀ μ s μ' s') (R' : Res h₀ μ' s' μ'' s'') : Res h₀ μ s μ'' s'' where
  same := by
    obtain ⟨_, _, rfl⟩ := R.same; obtain ⟨_, _, rfl⟩ := R'.same
    exact ⟨_, _, rfl⟩
  keep := fun b o nd e => R'.keep b o (fun d => by have := R.fresh b d nd; rw [e] at this; cases this) (R.keep b o nd e)
  mu := R'.mu
  grow := fun a d => R'.grow a (R.grow a d)
  fresh := fun a d nd => by
    by_cases d' : dom μ' a
    · exact R.fresh a d' nd
    · have := R'.fresh a d d'
      cases e : s.heap.get? a with
      | none => rfl
      | some o => rw [R.keep a o nd e] at this; cases this

/-- heap grown alone: nothing old is changed -/
theorem Trans.of_ext {X : Addr → Prop} {h h' : Heap} (k : Ext h h') : Trans X h X h' := fun a o _ nx g => ⟨nx, k a o g⟩
theorem MuOk.ext {h₀ h h' : Heap} {μ : Mu} (M : MuOk h₀ μ h) (k : Ext h h') : MuOk h₀ μ h' :=
  ⟨fun a l e => let ⟨vs, n, g, q⟩ := M.at_ a l e; ⟨vs, n, k _ _ g, Reps.mono (.of_ext k) _ _ q⟩, M.new⟩
theorem Res.of_ext {h₀ : Heap} {μ : Mu} {s : Shared} {h' : Heap} {tk : Nat} (M : MuOk h₀ μ s.heap) (k : Ext s.heap h') : Res h₀ μ s μ { s with heap := h', toks := tk } :=
  ⟨⟨_, _, rfl⟩, fun b o _ e => k b o e, M.ext k, fun _ d => d, fun _ d n => absurd d n⟩
theorem Ext.refl (h : Heap) : Ext h h := fun _ _ e => e
theorem Ext.trans {h h' h'' : Heap} (a : Ext h h') (b : Ext h' h'') : Ext h h'' := fun x o e => b x o (a x o e)
theorem Ext.push (h : Heap) (o : Obj) : Ext h (h.push o) := fun _ _ e => Heap.get?_push_of_some o e

def look (ρ : Str → Option V) (x : Str) : Option V := ρ x
def upd (ρ : Str → Option V) (x : Str) (v : V) : Str → Option V := fun y => if y = x then some v else ρ y

/-- a frame: what its names hold -/
structure Frm (env : Env) (ρ : Str → Option V) (X : Addr → Prop) (h : Heap) : Prop where
  kind : env.scope.kind = .function
  gl : env.globals = mainGlobals
  bl : env.builtins = builtinsNs
  ns : ∃ ml, h.Ns env.locals ml ∧ ∀ x v, env.kindOf x = some .local → ρ x = some v → ∃ r, ml x = some r ∧ Rep X h v r
  cell : ∀ x v, (env.kindOf x = some .cell ∨ env.kindOf x = some .free) → ρ x = some v → ∃ c r, env.cells.lookup x = some c ∧ h.IsCell c (some r) ∧ Rep X h v r
  own : ∀ x, env.kindOf x = some .cell → ∃ c o, env.cells.lookup x = some c ∧ h.IsCell c o
  apart : ∀ x y c, env.cells.lookup x = some c → env.cells.lookup y = some c → x = y

theorem Frm.trans {env : Env} {ρ : Str → Option V} {X X' : Addr → Prop} {h h' : Heap} (F : Frm env ρ X h) (T : Trans X h X' h')
    (k1 : ∀ m, h.Ns env.locals m → h'.Ns env.locals m) (k2 : ∀ x c o, env.cells.lookup x = some c → h.IsCell c o → h'.IsCell c o) : Frm env ρ X' h' where
  kind := F.kind
  gl := F.gl
  bl := F.bl
  ns := let ⟨ml, n, q⟩ := F.ns; ⟨ml, k1 _ n, fun x v a b => let ⟨r, e, p⟩ := q x v a b; ⟨r, e, Rep.mono T _ _ p⟩⟩
  cell := fun x v a b => let ⟨c, r, e, i, p⟩ := F.cell x v a b; ⟨c, r, e, k2 x c _ e i, Rep.mono T _ _ p⟩
  own := fun x a => let ⟨c, o, e, i⟩ := F.own x a; ⟨c, o, e, k2 x c _ e i⟩
  apart := F.apart
theorem Frm.res {h₀ : Heap} {μ μ' : Mu} {s s' : Shared} {env : Env} {ρ : Str → Option V} (F : Frm env ρ (dom μ) s.heap) (M : MuOk h₀ μ s.heap) (R : Res h₀ μ s μ' s') : Frm env ρ (dom μ') s'.heap :=
  F.trans R.trans_ (fun m n => by obtain ⟨o, es, ep, g, r⟩ := id n; exact ⟨o, es, ep, R.keep _ _ (M.notDict n) g, r⟩)
    (fun _ c o _ i => by obtain ⟨x, g, d⟩ := id i; exact ⟨x, R.keep _ _ (M.notCell i) g, d⟩)

def PlainEnv (env : Env) : Prop := env.scope.isGenerator = false ∧ env.scope.isCoroutine = false ∧ env.builtins = builtinsNs ∧ env.globals = mainGlobals

structure Room (n : Nat) (A : Around) : Prop where
  handled : A.handled = none
  depth : A.depth + n + 200 < recursionLimit
  units : A.units + 10 * n + 200 < cLine
  frames : ∃ env l, A.frames = some (env :: l) ∧ PlainEnv env
theorem Room.le {n m : Nat} {A : Around} (R : Room n A) (h : m ≤ n) : Room m A := ⟨R.handled, by have := R.depth; omega, by have := R.units; omega, R.frames⟩
theorem Room.deeper {n : Nat} {A : Around} {env : Env} (R : Room (n + 1) A) (hp : PlainEnv env) : Room n (A.deeper env) :=
  ⟨R.handled, by have := R.depth; show A.depth + 1 + n + 200 < _; omega, by have := R.units; show A.units + 3 + 10 * n + 200 < _; omega, let ⟨e', l, e, _⟩ := R.frames; ⟨env, e' :: l, by show A.frames.map _ = _; rw [e]; rfl, hp⟩⟩

end Mine
end

section
open PySem PySem.Calls PyProof.Rows PySem.W
namespace Mine

section
variable (h₀ : Heap) (prog : Program) (w : World) (n : Nat)

/-- an expression's evaluation -/
def Ev (env : Env) (ρ : Str → Option V) (μ : Mu) (e : Expr) (Φ : V → Mu → Prop) : Prop :=
  ∀ (A : Around) (s : Shared) (E : Value → Shared → Prop) (Q : Value → Shared → Prop), Room n A → Ext h₀ s.heap → Frm env ρ (dom μ) s.heap → MuOk h₀ μ s.heap →
    (∀ r s' v μ', Φ v μ' → Res h₀ μ s μ' s' → Rep (dom μ') s'.heap v r → Q r s') → wpAny (model prog w) A (eval e env) Q E s

/-- arguments, items of a display -/
def Evs (env : Env) (ρ : Str → Option V) (μ : Mu) (pos : Pos) (es : List Expr) (Φ : List V → Mu → Prop) : Prop :=
  ∀ (A : Around) (s : Shared) (E : Value → Shared → Prop) (Q : List Value → Shared → Prop), Room n A → Ext h₀ s.heap → Frm env ρ (dom μ) s.heap → MuOk h₀ μ s.heap →
    (∀ rs s' vs μ', Φ vs μ' → Res h₀ μ s μ' s' → Reps (dom μ') s'.heap vs rs → Q rs s') → wpAny (model prog w) A (spliced (backTo pos (starEach es env))) Q E s

/-- a test -/
def Ts (env : Env) (ρ : Str → Option V) (μ : Mu) (e : Expr) (Φ : Bool → Mu → Prop) : Prop :=
  ∀ (A : Around) (s : Shared) (E : Value → Shared → Prop) (Q : Bool → Shared → Prop), Room n A → Ext h₀ s.heap → Frm env ρ (dom μ) s.heap → MuOk h₀ μ s.heap →
    (∀ b s' μ', Φ b μ' → Res h₀ μ s μ' s' → Q b s') → wpAny (model prog w) A (PySem.isTrue e env (eval e env)) Q E s

def Op1 (μ : Mu) (t : Value → Sem Value) (x : V) (Φ : V → Mu → Prop) : Prop :=
  ∀ (A : Around) (s : Shared) (E : Value → Shared → Prop) (Q : Value → Shared → Prop), Room n A → Ext h₀ s.heap → MuOk h₀ μ s.heap → ∀ a, Rep (dom μ) s.heap x a →
    (∀ r s' v μ', Φ v μ' → Res h₀ μ s μ' s' → Rep (dom μ') s'.heap v r → Q r s') → wpAny (model prog w) A (t a) Q E s
def Op2 (μ : Mu) (t : Value → Value → Sem Value) (x y : V) (Φ : V → Mu → Prop) : Prop :=
  ∀ (A : Around) (s : Shared) (E : Value → Shared → Prop) (Q : Value → Shared → Prop), Room n A → Ext h₀ s.heap → MuOk h₀ μ s.heap → ∀ a b, Rep (dom μ) s.heap x a → Rep (dom μ) s.heap y b →
    (∀ r s' v μ', Φ v μ' → Res h₀ μ s μ' s' → Rep (dom μ') s'.heap v r → Q r s') → wpAny (model prog w) A (t a b) Q E s
/-- a call of a def -/
def Fn (f : Value) (μ : Mu) (xs : List V) (Φ : V → Mu → Prop) : Prop :=
  ∀ (A : Around) (s : Shared) (E : Value → Shared → Prop) (Q : Value → Shared → Prop), Room n A → Ext h₀ s.heap → MuOk h₀ μ s.heap → ∀ as, Reps (dom μ) s.heap xs as →
    (∀ r s' v μ', Φ v μ' → Res h₀ μ s μ' s' → Rep (dom μ') s'.heap v r → Q r s') → wpAny (model prog w) A (call f as) Q E s
end

section
variable {mg mb : Str → Option Value} {K : Frag} {h₀ : Heap} {prog : Program} {w : World} {n : Nat} {env : Env} {ρ : Str → Option V} {μ : Mu}

theorem Ev.mono {e : Expr} {Φ Ψ : V → Mu → Prop} (h : Ev h₀ prog w n env ρ μ e Φ) (k : ∀ v m, Φ v m → Ψ v m) : Ev h₀ prog w n env ρ μ e Ψ :=
  fun A s E Q rm ex F M hQ => h A s E Q rm ex F M fun r s' v μ' p => hQ r s' v μ' (k _ _ p)
theorem Evs.mono {pos : Pos} {e : List Expr} {Φ Ψ : List V → Mu → Prop} (h : Evs h₀ prog w n env ρ μ pos e Φ) (k : ∀ v m, Φ v m → Ψ v m) : Evs h₀ prog w n env ρ μ pos e Ψ :=
  fun A s E Q rm ex F M hQ => h A s E Q rm ex F M fun r s' v μ' p => hQ r s' v μ' (k _ _ p)
theorem Ts.mono {e : Expr} {Φ Ψ : Bool → Mu → Prop} (h : Ts h₀ prog w n env ρ μ e Φ) (k : ∀ v m, Φ v m → Ψ v m) : Ts h₀ prog w n env ρ μ e Ψ :=
  fun A s E Q rm ex F M hQ => h A s E Q rm ex F M fun r s' μ' p => hQ r s' μ' (k _ _ p)
theorem Fn.mono {f : Value} {xs : List V} {Φ Ψ : V → Mu → Prop} (h : Fn h₀ prog w n f μ xs Φ) (k : ∀ v m, Φ v m → Ψ v m) : Fn h₀ prog w n f μ xs Ψ :=
  fun A s E Q rm ex M as q hQ => h A s E Q rm ex M as q fun r s' v μ' p => hQ r s' v μ' (k _ _ p)
theorem Fn.up {f : Value} {xs : List V} {Φ : V → Mu → Prop} {m : Nat} (h : Fn h₀ prog w n f μ xs Φ) (k : n ≤ m) : Fn h₀ prog w m f μ xs Φ :=
  fun A s E Q rm => h A s E Q (rm.le k)

-- names
def seenKind (env : Env) (x : Str) : Bool := env.kindOf x == some .local || env.kindOf x == some .cell || env.kindOf x == some .free

theorem Ev_name {x : Str} {pos : Pos} {v : V} {Φ : V → Mu → Prop} (hk : seenKind env x = true) (hv : ρ x = some v) (h : Φ v μ)
    (hd : (x == ("__debug__" : Str)) = false := by decide) (hn : (x == ("__classdict__" : Str)) = false := by decide) : Ev h₀ prog w n env ρ μ (.Name x pos) Φ := by
  intro A s E Q rm ex F M hQ
  refine wpAny_Name ?_ hd
  unfold seenKind at hk
  simp only [Bool.or_eq_true, beq_iff_eq] at hk
  rcases hk with (hk | hk) | hk
  · obtain ⟨ml, nl, hl⟩ := F.ns
    obtain ⟨r, e, q⟩ := hl x v hk hv
    exact wpAny_loadName_local F.kind hk nl e (hQ r s v μ h (.refl M) q)
  · obtain ⟨c, r, e, i, q⟩ := F.cell x v (.inl hk) hv
    exact wpAny_loadName_cell F.kind hk e i (hQ r s v μ h (.refl M) q)
  · obtain ⟨c, r, e, i, q⟩ := F.cell x v (.inr hk) hv
    exact wpAny_loadName_free F.kind hk e i (hQ r s v μ h (.refl M) q) hn

theorem rep_ground {h : Heap} {v : V} {r : Value} (M : MuOk h₀ μ h) (ex : Ext h₀ h) (q : Rep (fun _ => False) h₀ v r) : Rep (dom μ) h v r :=
  Rep.mono (fun a o _ _ g => ⟨fun d => (by have := M.new a d; rw [g] at this; cases this), ex a o g⟩) _ _ q

/-- a name of the text's top that holds data -/
theorem Ev_top (G : Gd mg mb K h₀) {x : Str} {pos : Pos} {v : V} {r : Value} {Φ : V → Mu → Prop} (hk : env.kindOf x = some .globalImplicit) (hv : mg x = some r) (q : Rep (fun _ => False) h₀ v r) (h : Φ v μ)
    (hd : (x == ("__debug__" : Str)) = false := by decide) : Ev h₀ prog w n env ρ μ (.Name x pos) Φ := by
  intro A s E Q rm ex F M hQ
  exact Name_function_global F.kind hk (loadGlobal_global (by rw [F.gl]; exact G.g.keeps ex) hv (hQ r s v μ h (.refl M) (rep_ground M ex q))) hd

-- constants
theorem Ev_int {i : Int} {k : Nat} {pos : Pos} {Φ : V → Mu → Prop} (h : Φ (.int i) μ) : Ev h₀ prog w n env ρ μ (.Constant (.int i) k pos) Φ :=
  fun _ _ _ _ _ _ _ M hQ => wpAny_Constant_int (hQ _ _ _ μ h (.of_ext M (.refl _)) ⟨_, rfl⟩)
theorem Ev_str {x : Str} {k : Nat} {pos : Pos} {Φ : V → Mu → Prop} (h : Φ (.str x) μ) : Ev h₀ prog w n env ρ μ (.Constant (.str x) k pos) Φ :=
  fun _ _ _ _ _ _ _ M hQ => wpAny_Constant_str (hQ _ _ _ μ h (.of_ext M (.refl _)) ⟨_, rfl⟩)
theorem Ev_none {k : Nat} {pos : Pos} {Φ : V → Mu → Prop} (h : Φ .none μ) : Ev h₀ prog w n env ρ μ (.Constant .none k pos) Φ :=
  fun _ _ _ _ _ _ _ M hQ => wpAny_Constant_none (hQ _ _ _ μ h (.refl M) rfl)
theorem Ev_bool {b : Bool} {k : Nat} {pos : Pos} {Φ : V → Mu → Prop} (h : Φ (.bool b) μ) : Ev h₀ prog w n env ρ μ (.Constant (.bool b) k pos) Φ :=
  fun _ _ _ _ _ _ _ M hQ => wpAny_Constant_bool (hQ _ _ _ μ h (.refl M) rfl)

-- items
theorem Evs_nil {pos : Pos} {Φ : List V → Mu → Prop} (h : Φ [] μ) : Evs h₀ prog w n env ρ μ pos [] Φ :=
  fun _ s _ _ _ _ _ M hQ => wpAny_items_nil (hQ [] s [] μ h (.refl M) Reps.nil)
theorem Evs_cons {pos : Pos} {e : Expr} {es : List Expr} {Φ : List V → Mu → Prop}
    (h : Ev h₀ prog w n env ρ μ e fun v μ' => Evs h₀ prog w n env ρ μ' pos es fun vs μ'' => Φ (v :: vs) μ'')
    (he : starEach (e :: es) env = (false, eval e env) :: starEach es env := by rfl) : Evs h₀ prog w n env ρ μ pos (e :: es) Φ := by
  intro A s E Q rm ex F M hQ
  refine wpAny_items_cons (h A s E _ rm ex F M fun r s₁ v μ₁ p₁ R₁ q₁ => ?_) he
  exact p₁ A s₁ E _ rm (R₁.ext M ex) (F.res M R₁) R₁.mu fun rs s₂ vs μ₂ p₂ R₂ q₂ => hQ _ s₂ _ μ₂ p₂ (R₁.trans R₂) (Reps.cons (Rep.res R₂ q₁) q₂)

-- operators
theorem Ev_bin {l r : Expr} {op : Operator} {pos : Pos} {Φ : V → Mu → Prop}
    (h : Ev h₀ prog w n env ρ μ l fun v₁ μ₁ => Ev h₀ prog w n env ρ μ₁ r fun v₂ μ₂ => Op2 h₀ prog w n μ₂ (binaryOp op) v₁ v₂ Φ) : Ev h₀ prog w n env ρ μ (.BinOp l op r pos) Φ := by
  intro A s E Q rm ex F M hQ
  refine wpAny_BinOp (h A s E _ rm ex F M fun a s₁ v₁ μ₁ p₁ R₁ q₁ => ?_)
  refine p₁ A s₁ E _ rm (R₁.ext M ex) (F.res M R₁) R₁.mu fun b s₂ v₂ μ₂ p₂ R₂ q₂ => ?_
  exact p₂ A s₂ E _ rm (R₂.ext R₁.mu (R₁.ext M ex)) R₂.mu a b (Rep.res R₂ q₁) q₂ fun c s₃ v μ₃ p R q => hQ c s₃ v μ₃ p ((R₁.trans R₂).trans R) q

theorem Ev_cmp {l r : Expr} {op : CmpOp} {pos : Pos} {Φ : V → Mu → Prop}
    (h : Ev h₀ prog w n env ρ μ l fun v₁ μ₁ => Ev h₀ prog w n env ρ μ₁ r fun v₂ μ₂ => Op2 h₀ prog w n μ₂ (compareOp op) v₁ v₂ Φ)
    (hm : behindInMarks op r = false := by with_unfolding_all rfl) : Ev h₀ prog w n env ρ μ (.Compare l [op] [r] pos) Φ := by
  intro A s E Q rm ex F M hQ
  refine wpAny_Compare1 (h A s E _ rm ex F M fun a s₁ v₁ μ₁ p₁ R₁ q₁ => ?_) hm
  refine p₁ A s₁ E _ rm (R₁.ext M ex) (F.res M R₁) R₁.mu fun b s₂ v₂ μ₂ p₂ R₂ q₂ => ?_
  exact p₂ A s₂ E _ rm (R₂.ext R₁.mu (R₁.ext M ex)) R₂.mu a b (Rep.res R₂ q₁) q₂ fun c s₃ v μ₃ p R q => hQ c s₃ v μ₃ p ((R₁.trans R₂).trans R) q

theorem Ev_un {x : Expr} {op : UnaryOp} {pos : Pos} {Φ : V → Mu → Prop}
    (h : Ev h₀ prog w n env ρ μ x fun v₁ μ₁ => Op1 h₀ prog w n μ₁ (unaryOp op) v₁ Φ) : Ev h₀ prog w n env ρ μ (.UnaryOp op x pos) Φ := by
  intro A s E Q rm ex F M hQ
  refine wpAny_UnaryOp (h A s E _ rm ex F M fun a s₁ v₁ μ₁ p₁ R₁ q₁ => ?_)
  exact p₁ A s₁ E _ rm (R₁.ext M ex) R₁.mu a q₁ fun c s₃ v μ₃ p R q => hQ c s₃ v μ₃ p (R₁.trans R) q

-- ints
theorem op_add {a b : Int} {Φ : V → Mu → Prop} (h : Φ (.int (a + b)) μ) : Op2 h₀ prog w n μ (binaryOp .Add) (.int a) (.int b) Φ := by
  rintro A s E Q rm ex M _ _ ⟨t, rfl⟩ ⟨u, rfl⟩ hQ
  exact add_int (hQ _ _ _ μ h (.of_ext M (.refl _)) ⟨_, rfl⟩)
theorem op_sub {a b : Int} {Φ : V → Mu → Prop} (h : Φ (.int (a - b)) μ) : Op2 h₀ prog w n μ (binaryOp .Sub) (.int a) (.int b) Φ := by
  rintro A s E Q rm ex M _ _ ⟨t, rfl⟩ ⟨u, rfl⟩ hQ
  exact sub_int (hQ _ _ _ μ h (.of_ext M (.refl _)) ⟨_, rfl⟩)
theorem op_mul {a b : Int} {Φ : V → Mu → Prop} (hm : IntMulOk a b) (h : Φ (.int (a * b)) μ) : Op2 h₀ prog w n μ (binaryOp .Mult) (.int a) (.int b) Φ := by
  rintro A s E Q rm ex M _ _ ⟨t, rfl⟩ ⟨u, rfl⟩ hQ
  exact mul_int (hQ _ _ _ μ h (.of_ext M (.refl _)) ⟨_, rfl⟩) hm
theorem op_mod {a b : Int} {Φ : V → Mu → Prop} (hb : b ≠ 0) (h : Φ (.int (a.fmod b)) μ) : Op2 h₀ prog w n μ (binaryOp .Mod) (.int a) (.int b) Φ := by
  rintro A s E Q rm ex M _ _ ⟨t, rfl⟩ ⟨u, rfl⟩ hQ
  exact mod_int' hb (hQ _ _ _ μ h (.of_ext M (.refl _)) ⟨_, rfl⟩)
theorem op_neg {a : Int} {Φ : V → Mu → Prop} (h : Φ (.int (-a)) μ) : Op1 h₀ prog w n μ (unaryOp .USub) (.int a) Φ := by
  rintro A s E Q rm ex M _ ⟨t, rfl⟩ hQ
  exact neg_int (hQ _ _ _ μ h (.of_ext M (.refl _)) ⟨_, rfl⟩)
theorem op_eq {a b : Int} {Φ : V → Mu → Prop} (h : Φ (.bool (a == b)) μ) : Op2 h₀ prog w n μ (compareOp .Eq) (.int a) (.int b) Φ := by
  rintro A s E Q rm ex M _ _ ⟨t, rfl⟩ ⟨u, rfl⟩ hQ
  exact eq_int (hQ _ _ _ μ h (.refl M) rfl)
theorem op_ne {a b : Int} {Φ : V → Mu → Prop} (h : Φ (.bool (a != b)) μ) : Op2 h₀ prog w n μ (compareOp .NotEq) (.int a) (.int b) Φ := by
  rintro A s E Q rm ex M _ _ ⟨t, rfl⟩ ⟨u, rfl⟩ hQ
  exact ne_int (hQ _ _ _ μ h (.refl M) rfl)
theorem op_lt {a b : Int} {Φ : V → Mu → Prop} (h : Φ (.bool (decide (a < b))) μ) : Op2 h₀ prog w n μ (compareOp .Lt) (.int a) (.int b) Φ := by
  rintro A s E Q rm ex M _ _ ⟨t, rfl⟩ ⟨u, rfl⟩ hQ
  exact PySem.P.lt_int (hQ _ _ _ μ h (.refl M) rfl)
theorem op_le {a b : Int} {Φ : V → Mu → Prop} (h : Φ (.bool (decide (a ≤ b))) μ) : Op2 h₀ prog w n μ (compareOp .LtE) (.int a) (.int b) Φ := by
  rintro A s E Q rm ex M _ _ ⟨t, rfl⟩ ⟨u, rfl⟩ hQ
  exact PySem.P.le_int (hQ _ _ _ μ h (.refl M) rfl)
theorem op_gt {a b : Int} {Φ : V → Mu → Prop} (h : Φ (.bool (decide (b < a))) μ) : Op2 h₀ prog w n μ (compareOp .Gt) (.int a) (.int b) Φ := by
  rintro A s E Q rm ex M _ _ ⟨t, rfl⟩ ⟨u, rfl⟩ hQ
  exact PySem.P.gt_int (hQ _ _ _ μ h (.refl M) rfl)
theorem op_isNot_none {x : V} {b : Bool} {Φ : V → Mu → Prop} (hx : (x = .none ∧ b = false) ∨ ((∃ l, x = .lst l) ∧ b = true)) (h : Φ (.bool b) μ) : Op2 h₀ prog w n μ (compareOp .IsNot) x .none Φ := by
  rintro A s E Q rm ex M a _ qa rfl hQ
  refine PySem.isNot_none ?_
  rcases hx with ⟨rfl, rfl⟩ | ⟨⟨l, rfl⟩, rfl⟩
  · obtain rfl : a = .none := qa
    exact hQ _ _ _ μ h (.refl M) rfl
  · obtain ⟨a', vs, k, rfl, _⟩ := qa
    exact hQ _ _ _ μ h (.refl M) rfl

theorem fdiv_room {A : Around} {s : Shared} (G : Gd mg mb K h₀) (ht : prog.given.tree = none) (rm : Room n A) (ex : Ext h₀ s.heap) : PylongRoom (model prog w) A s := by
  obtain ⟨env, l, e, e1, e2, e3, e4⟩ := rm.frames
  refine PylongRoom.of (G.nolimit.keeps ex) ?_ (SeerAt.of (G.seer.keeps ex) ht e e1 e2 e3 e4)
  have := rm.depth
  show A.depth + 100 < recursionLimit
  omega
theorem op_fdiv (G : Gd mg mb K h₀) (ht : prog.given.tree = none) {a b : Int} {Φ : V → Mu → Prop} (hb : b ≠ 0) (h : Φ (.int (a.fdiv b)) μ) : Op2 h₀ prog w n μ (binaryOp .FloorDiv) (.int a) (.int b) Φ := by
  rintro A s E Q rm ex M _ _ ⟨t, rfl⟩ ⟨u, rfl⟩ hQ
  exact floordiv_int hb (hQ _ _ _ μ h (.of_ext M (.refl _)) ⟨_, rfl⟩) (.inr (fdiv_room G ht rm ex))
end

end Mine
end

section
open PySem PySem.Calls PyProof.Rows PySem.W
namespace Mine

section
variable {mg mb : Str → Option Value} {K : Frag} {h₀ : Heap} {prog : Program} {w : World} {n : Nat} {env : Env} {ρ : Str → Option V} {μ : Mu}

-- calls of names
theorem Ev_call (G : Gd mg mb K h₀) {x : Str} {p : Pos} {e : Expr} {es : List Expr} {pos : Pos} {f : Addr} {o : Obj} {fd : FuncData} {Φ : V → Mu → Prop}
    (hk : env.kindOf x = some .globalImplicit) (hv : mg x = some (.ref f)) (ho : K.lookup f = some o) (hd : o.data = .func fd)
    (h : Evs h₀ prog w n env ρ μ pos (e :: es) fun vs μ₁ => Fn h₀ prog w n (.ref f) μ₁ vs Φ)
    (hdb : (x == ("__debug__" : Str)) = false := by decide)
    (he : eval (.Call (.Name x p) (e :: es) [] pos) env = (do callWith pos (← eval (.Name x p) env) [] (backTo pos (starEach (e :: es) env)) (backToKw pos (keywordEach [] env))) := by rfl)
    (he' : starEach (e :: es) env = (false, eval e env) :: starEach es env := by rfl) :
    Ev h₀ prog w n env ρ μ (.Call (.Name x p) (e :: es) [] pos) Φ := by
  intro A s E Q rm ex F M hQ
  refine Call_ ?_ he
  refine Name_function_global F.kind hk (loadGlobal_global (by rw [F.gl]; exact G.g.keeps ex) hv ?_) hdb
  refine callWith_def hd (h A s E _ rm ex F M fun rs s₁ vs μ₁ p₁ R₁ q₁ => ⟨(R₁.ext M ex) _ _ (G.X _ _ ho), ?_⟩) he'
  exact p₁ A s₁ E _ rm (R₁.ext M ex) R₁.mu rs q₁ fun r s₂ v μ₂ p₂ R₂ q₂ => hQ r s₂ v μ₂ p₂ (R₁.trans R₂) q₂

theorem Ev_callB (G : Gd mg mb K h₀) {x : Str} {p : Pos} {e : Expr} {es : List Expr} {pos : Pos} {id : String} {Φ : V → Mu → Prop}
    (hk : env.kindOf x = some .globalImplicit) (hm : mg x = none) (hv : bootBuiltins x = some (.builtin id))
    (h : Evs h₀ prog w n env ρ μ pos (e :: es) fun vs μ₁ => Fn h₀ prog w n (.builtin id) μ₁ vs Φ)
    (hx : x ≠ "__name__" := by decide) (hdb : (x == ("__debug__" : Str)) = false := by decide)
    (he : eval (.Call (.Name x p) (e :: es) [] pos) env = (do callWith pos (← eval (.Name x p) env) [] (backTo pos (starEach (e :: es) env)) (backToKw pos (keywordEach [] env))) := by rfl)
    (he' : starEach (e :: es) env = (false, eval e env) :: starEach es env := by rfl) (hp : ((backTo pos (starEach es env)).any fun x => x.fst) = false := by rfl) :
    Ev h₀ prog w n env ρ μ (.Call (.Name x p) (e :: es) [] pos) Φ := by
  intro A s E Q rm ex F M hQ
  refine Call_ ?_ he
  refine Name_function_global F.kind hk (loadGlobal_builtin (by rw [F.gl]; exact G.g.keeps ex) hm (by rw [F.bl]; exact G.b.keeps ex) ((G.blt x hx).trans hv) ?_) hdb
  refine PyProof.Rows.callWith_builtin1 (h A s E _ rm ex F M fun rs s₁ vs μ₁ p₁ R₁ q₁ => ?_) he' hp
  exact p₁ A s₁ E _ rm (R₁.ext M ex) R₁.mu rs q₁ fun r s₂ v μ₂ p₂ R₂ q₂ => hQ r s₂ v μ₂ p₂ (R₁.trans R₂) q₂

theorem Ev_callT (G : Gd mg mb K h₀) {x : Str} {p : Pos} {e : Expr} {es : List Expr} {pos : Pos} {id : String} {Φ : V → Mu → Prop}
    (hk : env.kindOf x = some .globalImplicit) (hm : mg x = none) (hv : bootBuiltins x = some (.type id))
    (h : Evs h₀ prog w n env ρ μ pos (e :: es) fun vs μ₁ => Fn h₀ prog w n (.type id) μ₁ vs Φ)
    (hx : x ≠ "__name__" := by decide) (hdb : (x == ("__debug__" : Str)) = false := by decide)
    (he : eval (.Call (.Name x p) (e :: es) [] pos) env = (do callWith pos (← eval (.Name x p) env) [] (backTo pos (starEach (e :: es) env)) (backToKw pos (keywordEach [] env))) := by rfl)
    (he' : starEach (e :: es) env = (false, eval e env) :: starEach es env := by rfl) (hp : ((backTo pos (starEach es env)).any fun x => x.fst) = false := by rfl) :
    Ev h₀ prog w n env ρ μ (.Call (.Name x p) (e :: es) [] pos) Φ := by
  intro A s E Q rm ex F M hQ
  refine Call_ ?_ he
  refine Name_function_global F.kind hk (loadGlobal_builtin (by rw [F.gl]; exact G.g.keeps ex) hm (by rw [F.bl]; exact G.b.keeps ex) ((G.blt x hx).trans hv) ?_) hdb
  refine PyProof.Rows.callWith_type1 (h A s E _ rm ex F M fun rs s₁ vs μ₁ p₁ R₁ q₁ => ?_) he' hp
  exact p₁ A s₁ E _ rm (R₁.ext M ex) R₁.mu rs q₁ fun r s₂ v μ₂ p₂ R₂ q₂ => hQ r s₂ v μ₂ p₂ (R₁.trans R₂) q₂

-- sequences
def seqOf (μ : Mu) : V → Option (List V)
  | .tup l => some l
  | .lst l => some l
  | .mt a => μ a
  | _ => none
def lstOf (μ : Mu) : V → Option (List V)
  | .lst l => some l
  | .mt a => μ a
  | _ => none
theorem lst_at {h : Heap} {v : V} {l : List V} {r : Value} (M : MuOk h₀ μ h) (e : lstOf μ v = some l) (q : Rep (dom μ) h v r) :
    ∃ a vs k, r = .ref a ∧ h.get? a = some (lstObj vs k) ∧ Reps (dom μ) h l vs.toList := by
  cases v with
  | lst l' => cases e; obtain ⟨a, vs, k, rfl, _, g, q⟩ := q; exact ⟨a, vs, k, rfl, g, q⟩
  | mt a => obtain rfl : r = .ref a := q; obtain ⟨vs, k, g, q'⟩ := M.at_ a l e; exact ⟨a, vs, k, rfl, g, q'⟩
  | _ => cases e
theorem seq_at {h : Heap} {v : V} {l : List V} {r : Value} (M : MuOk h₀ μ h) (e : seqOf μ v = some l) (q : Rep (dom μ) h v r) :
    ∃ a vs k, r = .ref a ∧ (h.get? a = some (lstObj vs k) ∨ h.get? a = some (tupObj vs k)) ∧ Reps (dom μ) h l vs.toList := by
  cases v with
  | lst l' => cases e; obtain ⟨a, vs, k, rfl, _, g, q⟩ := q; exact ⟨a, vs, k, rfl, .inl g, q⟩
  | tup l' => cases e; obtain ⟨a, vs, k, rfl, _, g, q⟩ := q; exact ⟨a, vs, k, rfl, .inr g, q⟩
  | mt a => obtain rfl : r = .ref a := q; obtain ⟨vs, k, g, q'⟩ := M.at_ a l e; exact ⟨a, vs, k, rfl, .inl g, q'⟩
  | _ => cases e

theorem fn_len {v : V} {l : List V} {Φ : V → Mu → Prop} (e : seqOf μ v = some l) (hl : l.length ≤ 2 ^ 24) (h : Φ (.int l.length) μ) : Fn h₀ prog w n (.builtin "len") μ [v] Φ := by
  rintro A s E Q rm ex M as q hQ
  obtain ⟨r, rs, rfl, q1, q'⟩ := q.cons_inv
  obtain rfl := q'.nil_inv
  obtain ⟨a, vs, k, rfl, g, q⟩ := seq_at M e q1
  have hz : vs.size = l.length := by have := q.length; simpa using this
  rcases g with g | g
  · refine len_list ⟨_, g, rfl, k, rfl⟩ (by omega) ?_
    rw [hz]; exact hQ _ _ _ μ h (.of_ext M (.refl _)) ⟨_, rfl⟩
  · refine PyProof.Rows.len_tuple ⟨_, g, rfl, k, rfl⟩ (by omega) ?_
    rw [hz]; exact hQ _ _ _ μ h (.of_ext M (.refl _)) ⟨_, rfl⟩
theorem fn_abs {i : Int} {Φ : V → Mu → Prop} (h : Φ (.int i.natAbs) μ) : Fn h₀ prog w n (.builtin "abs") μ [.int i] Φ := by
  rintro A s E Q rm ex M as q hQ
  obtain ⟨r, rs, rfl, ⟨t, rfl⟩, q'⟩ := q.cons_inv
  obtain rfl := q'.nil_inv
  refine PyProof.Rows.call_abs_int fun u tk => ?_
  have e : (if i < 0 then -i else i) = (i.natAbs : Int) := by split <;> omega
  rw [e]; exact hQ _ _ _ μ h (.of_ext M (.refl _)) ⟨_, rfl⟩

/-- the freshly made list as a list that may be changed -/
def muSet (μ : Mu) (a : Addr) (l : List V) : Mu := fun b => if b = a then some l else μ b
def muDel (μ : Mu) (a : Addr) : Mu := fun b => if b = a then none else μ b

theorem dom_set {a b : Addr} {l : List V} : dom (muSet μ a l) b ↔ b = a ∨ dom μ b := by
  unfold dom muSet
  by_cases e : b = a
  · simp [e]
  · simp [e]
theorem dom_del {a b : Addr} : dom (muDel μ a) b ↔ b ≠ a ∧ dom μ b := by
  unfold dom muDel
  by_cases e : b = a
  · simp [e]
  · simp [e]

theorem trans_add {h : Heap} {a : Addr} {l : List V} {h' : Heap} (k : Ext h h') (hn : h.get? a = none) : Trans (dom μ) h (dom (muSet μ a l)) h' := fun b o _ nx g =>
  ⟨fun d => (dom_set.mp d).elim (fun e => by rw [e, hn] at g; cases g) nx, k b o g⟩

theorem res_new {s : Shared} {h' : Heap} {tk : Nat} {a : Addr} {l : List V} {vs : Array Value} {k : Nat} (M : MuOk h₀ μ s.heap) (ex : Ext h₀ s.heap) (kp : Ext s.heap h') (hn : s.heap.get? a = none)
    (g : h'.get? a = some (lstObj vs k)) (q : Reps (dom μ) s.heap l vs.toList) : Res h₀ μ s (muSet μ a l) { s with heap := h', toks := tk } where
  same := ⟨_, _, rfl⟩
  keep := fun b o _ e => kp b o e
  mu := ⟨fun b l' e => by
    unfold muSet at e
    by_cases hb : b = a
    · subst hb; simp at e; subst e; exact ⟨vs, k, g, Reps.mono (trans_add kp hn) _ _ q⟩
    · simp [hb] at e
      obtain ⟨vs', k', g', q'⟩ := M.at_ b l' e
      exact ⟨vs', k', kp _ _ g', Reps.mono (trans_add kp hn) _ _ q'⟩, fun b d => by
    rcases dom_set.mp d with rfl | d
    · cases e : h₀.get? b with
      | none => rfl
      | some o => rw [ex b o e] at hn; cases hn
    · exact M.new b d⟩
  grow := fun b d => dom_set.mpr (.inr d)
  fresh := fun b d nd => (dom_set.mp d).elim (fun e => e ▸ hn) fun d => absurd d nd

theorem get?_size (h : Heap) : h.get? h.objs.size = none := by
  cases e : h.get? h.objs.size with
  | none => rfl
  | some o => exact absurd (Heap.lt_size e) (Nat.lt_irrefl _)

/-- list(x): a new list -/
theorem fn_listM {v : V} {l : List V} {Φ : V → Mu → Prop} (e : seqOf μ v = some l) (hl : l.length ≤ 2 ^ 24) (h : ∀ a, μ a = none → Φ (.mt a) (muSet μ a l)) : Fn h₀ prog w n (.type "list") μ [v] Φ := by
  rintro A s E Q rm ex M as q hQ
  obtain ⟨r, rs, rfl, q1, q'⟩ := q.cons_inv
  obtain rfl := q'.nil_inv
  obtain ⟨a, vs, k, rfl, g, q⟩ := seq_at M e q1
  have hz : vs.size = l.length := by have := q.length; simpa using this
  have hz' : vs.size ≤ sizeLine := by rw [hz, sizeLine_eq]; omega
  have hnone : μ s.heap.objs.size = none := by
    cases e : μ s.heap.objs.size with
    | none => rfl
    | some l' => obtain ⟨_, _, g, _⟩ := M.at_ _ l' e; rw [get?_size] at g; cases g
  have fin : ∀ h' c', (∀ b o', s.heap.get? b = some o' → h'.get? b = some o') → h'.get? s.heap.objs.size = some { cls := .type "list", dict := none, data := .seq vs c', slots := #[] } → Q (.ref s.heap.objs.size) { s with heap := h' } :=
    fun h' c' kp g' => hQ _ _ _ _ (h _ hnone) (res_new M ex kp (get?_size _) g' q) rfl
  rcases g with g | g
  · exact call_list_seq (hsz := hz') a (.inl rfl) g rfl rfl fin
  · exact call_list_seq (hsz := hz') a (.inr rfl) g rfl rfl fin

/-- a list that nothing changes any more -/
theorem res_freeze {s s' : Shared} {a : Addr} {l : List V} {μ' : Mu} (hμ : μ a = none) (R : Res h₀ μ s μ' s') (ha : μ' a = some l) :
    Res h₀ μ s (muDel μ' a) s' ∧ Rep (dom (muDel μ' a)) s'.heap (.lst l) (.ref a) := by
  have tr : Trans (dom μ') s'.heap (dom (muDel μ' a)) s'.heap := fun b o _ nx g => ⟨fun d => nx (dom_del.mp d).2, g⟩
  refine ⟨⟨R.same, R.keep, ⟨fun b l' e => ?_, fun b d => R.mu.new b (dom_del.mp d).2⟩, fun b d => dom_del.mpr ⟨fun e => ?_, R.grow b d⟩, fun b d nd => R.fresh b (dom_del.mp d).2 nd⟩, ?_⟩
  · unfold muDel at e
    by_cases hb : b = a
    · simp [hb] at e
    · simp [hb] at e
      obtain ⟨vs, k, g, q⟩ := R.mu.at_ b l' e
      exact ⟨vs, k, g, Reps.mono tr _ _ q⟩
  · subst e; obtain ⟨l', e⟩ := d; rw [hμ] at e; cases e
  · obtain ⟨vs, k, g, q⟩ := R.mu.at_ a l ha
    exact ⟨a, vs, k, rfl, fun d => (dom_del.mp d).1 rfl, g, Reps.mono tr _ _ q⟩

theorem muDel_set {a : Addr} {l : List V} (e : μ a = none) : muDel (muSet μ a l) a = μ := by
  funext b; unfold muDel muSet
  by_cases hb : b = a
  · simp [hb, e]
  · simp [hb]

theorem Fn.freeze {f : Value} {xs : List V} {l : List V} {Φ : V → Mu → Prop} (h : Fn h₀ prog w n f μ xs fun v μ' => ∃ a, μ a = none ∧ v = .mt a ∧ μ' = muSet μ a l) (k : Φ (.lst l) μ) : Fn h₀ prog w n f μ xs Φ := by
  intro A s E Q rm ex M as q hQ
  refine h A s E Q rm ex M as q fun r s' v μ' ⟨a, hn, e1, e2⟩ R q' => ?_
  subst e1 e2
  obtain rfl : r = .ref a := q'
  have := res_freeze (l := l) hn R (by simp [muSet])
  rw [muDel_set hn] at this
  exact hQ _ s' _ μ k this.1 this.2
theorem Ev.freeze {e : Expr} {l : List V} {Φ : V → Mu → Prop} (h : Ev h₀ prog w n env ρ μ e fun v μ' => ∃ a, μ a = none ∧ v = .mt a ∧ μ' = muSet μ a l) (k : Φ (.lst l) μ) : Ev h₀ prog w n env ρ μ e Φ := by
  intro A s E Q rm ex F M hQ
  refine h A s E Q rm ex F M fun r s' v μ' ⟨a, hn, e1, e2⟩ R q' => ?_
  subst e1 e2
  obtain rfl : r = .ref a := q'
  have := res_freeze (l := l) hn R (by simp [muSet])
  rw [muDel_set hn] at this
  exact hQ _ s' _ μ k this.1 this.2
theorem fn_list {v : V} {l : List V} {Φ : V → Mu → Prop} (e : seqOf μ v = some l) (hl : l.length ≤ 2 ^ 24) (h : Φ (.lst l) μ) : Fn h₀ prog w n (.type "list") μ [v] Φ :=
  Fn.freeze (fn_listM e hl fun a hn => ⟨a, hn, rfl, rfl⟩) h

-- displays
theorem Ev_tuple {es : List Expr} {k : Nat} {pos : Pos} {Φ : V → Mu → Prop} (h : Evs h₀ prog w n env ρ μ pos es fun vs μ' => vs.length ≤ 2 ^ 24 ∧ Φ (.tup vs) μ') : Ev h₀ prog w n env ρ μ (.Tuple es k pos) Φ := by
  intro A s E Q rm ex F M hQ
  refine PySem.wpAny_Tuple (h A s E _ rm ex F M fun rs s₁ vs μ₁ p₁ R₁ q₁ => ⟨by rw [q₁.length, sizeLine_eq]; omega, ?_⟩)
  have hn := get?_size s₁.heap
  refine hQ _ _ _ μ₁ p₁.2 (R₁.trans (.of_ext R₁.mu (Ext.push _ _))) ⟨_, _, _, rfl, fun ⟨l, e⟩ => ?_, Heap.get?_push_size _ rfl, Reps.mono (.of_ext (Ext.push _ _)) _ _ (by simpa using q₁)⟩
  obtain ⟨_, _, g, _⟩ := R₁.mu.at_ _ l e
  rw [hn] at g; cases g
theorem Ev_listM {es : List Expr} {pos : Pos} {Φ : V → Mu → Prop} (h : Evs h₀ prog w n env ρ μ pos es fun vs μ' => vs.length ≤ 2 ^ 24 ∧ ∀ a, μ' a = none → Φ (.mt a) (muSet μ' a vs)) : Ev h₀ prog w n env ρ μ (.List es pos) Φ := by
  intro A s E Q rm ex F M hQ
  refine PySem.wpAny_List (h A s E _ rm ex F M fun rs s₁ vs μ₁ p₁ R₁ q₁ => ⟨by rw [q₁.length, sizeLine_eq]; omega, ?_⟩)
  have hn := get?_size s₁.heap
  have hnone : μ₁ s₁.heap.objs.size = none := by
    cases e : μ₁ s₁.heap.objs.size with
    | none => rfl
    | some l' => obtain ⟨_, _, g, _⟩ := R₁.mu.at_ _ l' e; rw [hn] at g; cases g
  exact hQ _ _ _ _ (p₁.2 _ hnone) (R₁.trans (res_new R₁.mu (R₁.ext M ex) (Ext.push _ _) hn (Heap.get?_push_size _ rfl) (by simpa using q₁))) rfl

-- subscripts
theorem Ev_item {l i : Expr} {pos : Pos} {Φ : V → Mu → Prop}
    (h : Ev h₀ prog w n env ρ μ l fun v₁ μ₁ => Ev h₀ prog w n env ρ μ₁ i fun v₂ μ₂ => ∃ (xs : List V) (j : Nat) (x : V), v₂ = .int (j : Int) ∧ seqOf μ₂ v₁ = some xs ∧ xs[j]? = some x ∧ j < 2 ^ 62 ∧ Φ x μ₂)
    (hs : ∀ a k u, subscripted i false (.ref a) (.int k u) = operate [.ref a, .int k u] (getItem (.ref a) (.int k u)) := by with_unfolding_all (intros; rfl)) :
    Ev h₀ prog w n env ρ μ (.Subscript l i pos) Φ := by
  intro A s E Q rm ex F M hQ
  refine Subscript_ (h A s E _ rm ex F M fun a s₁ v₁ μ₁ p₁ R₁ q₁ => ?_)
  refine p₁ A s₁ E _ rm (R₁.ext M ex) (F.res M R₁) R₁.mu fun b s₂ v₂ μ₂ p₂ R₂ q₂ => ?_
  obtain ⟨xs, j, x, rfl, e, hx, hj, p⟩ := p₂
  obtain ⟨t, rfl⟩ := q₂
  obtain ⟨a, vs, k, rfl, g, q⟩ := seq_at R₂.mu e (Rep.res R₂ q₁)
  obtain ⟨r, er, qr⟩ := q.get hx
  have er' : vs[j]? = some r := by simpa using er
  have fin := hQ r s₂ x μ₂ p (R₁.trans R₂) qr
  rcases g with g | g
  · exact tail_any ⟨_, g, rfl⟩ slot_list_getitem.lookup (wpAny_getItem_list ⟨_, g, rfl, k, rfl⟩ (by omega) (by omega) (by simpa using er') fin) (hs _ _ _)
  · refine tail_any ⟨_, g, rfl⟩ slot_tuple_getitem.lookup (getItem_tuple ⟨_, g, rfl, k, rfl⟩ (by omega) (by omega) (j := j) ?_ er' fin) (hs _ _ _)
    have hlt : j < vs.size := (Array.getElem?_eq_some_iff.mp er').1
    exact seqIndex_of (by omega) (by omega)
theorem Ev_last {l i : Expr} {pos : Pos} {Φ : V → Mu → Prop}
    (h : Ev h₀ prog w n env ρ μ l fun v₁ μ₁ => Ev h₀ prog w n env ρ μ₁ i fun v₂ μ₂ => ∃ (xs : List V) (x : V), v₂ = .int (-1) ∧ lstOf μ₂ v₁ = some (xs ++ [x]) ∧ Φ x μ₂)
    (hs : ∀ a k u, subscripted i false (.ref a) (.int k u) = operate [.ref a, .int k u] (getItem (.ref a) (.int k u)) := by with_unfolding_all (intros; rfl)) :
    Ev h₀ prog w n env ρ μ (.Subscript l i pos) Φ := by
  intro A s E Q rm ex F M hQ
  refine Subscript_ (h A s E _ rm ex F M fun a s₁ v₁ μ₁ p₁ R₁ q₁ => ?_)
  refine p₁ A s₁ E _ rm (R₁.ext M ex) (F.res M R₁) R₁.mu fun b s₂ v₂ μ₂ p₂ R₂ q₂ => ?_
  obtain ⟨xs, x, rfl, e, p⟩ := p₂
  obtain ⟨t, rfl⟩ := q₂
  obtain ⟨a, vs, k, rfl, g, q⟩ := lst_at R₂.mu e (Rep.res R₂ q₁)
  obtain ⟨r, er, qr⟩ := q.get (i := xs.length) (x := x) (by simp)
  have hz : vs.size = xs.length + 1 := by have := q.length; simpa using this
  have er' : vs[((-1 : Int) + vs.size).toNat]? = some r := by
    have : ((-1 : Int) + vs.size).toNat = xs.length := by omega
    rw [this]; simpa using er
  exact tail_any ⟨_, g, rfl⟩ slot_list_getitem.lookup (wpAny_getItem_list_neg ⟨_, g, rfl, k, rfl⟩ (by omega) (by omega) (by omega) er' (hQ r s₂ x μ₂ p (R₁.trans R₂) qr)) (hs _ _ _)

-- tests
theorem Ts_val {e : Expr} {Φ : Bool → Mu → Prop} (h : Ev h₀ prog w n env ρ μ e fun v μ' => ∃ b, v = .bool b ∧ Φ b μ')
    (he : PySem.isTrue e env (eval e env) = (do let v ← eval e env; standAt e.pos; holding [v] (truthy v)) := by rfl) : Ts h₀ prog w n env ρ μ e Φ := by
  intro A s E Q rm ex F M hQ
  refine PySem.wpAny_isTrue_value (h A s E _ rm ex F M fun r s₁ v μ₁ p₁ R₁ q₁ => ?_) he
  obtain ⟨b, rfl, p⟩ := p₁
  obtain rfl : r = .bool b := q₁
  exact wpAny_truthy_bool (hQ b s₁ μ₁ p R₁)
theorem Ts_cmp {l r : Expr} {op : CmpOp} {pos : Pos} {Φ : Bool → Mu → Prop}
    (h : Ev h₀ prog w n env ρ μ l fun v₁ μ₁ => Ev h₀ prog w n env ρ μ₁ r fun v₂ μ₂ => Op2 h₀ prog w n μ₂ (compareOp op) v₁ v₂ fun v μ' => ∃ b, v = .bool b ∧ Φ b μ')
    (hm : behindInMarks op r = false := by with_unfolding_all rfl) : Ts h₀ prog w n env ρ μ (.Compare l [op] [r] pos) Φ := by
  intro A s E Q rm ex F M hQ
  refine wpAny_isTrue_Compare1 (h A s E _ rm ex F M fun a s₁ v₁ μ₁ p₁ R₁ q₁ => ?_) hm
  refine p₁ A s₁ E _ rm (R₁.ext M ex) (F.res M R₁) R₁.mu fun b s₂ v₂ μ₂ p₂ R₂ q₂ => ?_
  refine p₂ A s₂ E _ rm (R₂.ext R₁.mu (R₁.ext M ex)) R₂.mu a b (Rep.res R₂ q₁) q₂ fun c s₃ v μ₃ p R q => ?_
  obtain ⟨b, rfl, p⟩ := p
  obtain rfl : c = .bool b := q
  exact wpAny_truthy_bool (hQ b s₃ μ₃ p ((R₁.trans R₂).trans R))
theorem Ts_chain {l r₁ r₂ : Expr} {op₁ op₂ : CmpOp} {pos : Pos} {Φ : Bool → Mu → Prop}
    (h : Ev h₀ prog w n env ρ μ l fun v μ₁ => Ev h₀ prog w n env ρ μ₁ r₁ fun v₁ μ₂ => Op2 h₀ prog w n μ₂ (compareOp op₁) v v₁ fun u μ₃ => ∃ b, u = .bool b ∧ μ₃ = μ₂ ∧
      (b = false → Φ false μ₂) ∧ (b = true → Ev h₀ prog w n env ρ μ₂ r₂ fun v₂ μ₄ => Op2 h₀ prog w n μ₄ (compareOp op₂) v₁ v₂ fun u μ' => ∃ b, u = .bool b ∧ Φ b μ'))
    (hm : lastMarks [op₁, op₂] [r₁, r₂] = false := by with_unfolding_all rfl) : Ts h₀ prog w n env ρ μ (.Compare l [op₁, op₂] [r₁, r₂] pos) Φ := by
  intro A s E Q rm ex F M hQ
  refine isTrue_chain (h A s E _ rm ex F M fun a s₁ v₁ μ₁ p₁ R₁ q₁ => ?_) hm
  refine test_link (p₁ A s₁ E _ rm (R₁.ext M ex) (F.res M R₁) R₁.mu fun b s₂ v₂ μ₂ p₂ R₂ q₂ => ?_)
  refine p₂ A s₂ E _ rm (R₂.ext R₁.mu (R₁.ext M ex)) R₂.mu a b (Rep.res R₂ q₁) q₂ fun c s₃ v μ₃ p R₃ q => ?_
  obtain ⟨t, rfl, rfl, p0, p1⟩ := p
  obtain rfl : c = .bool t := q
  refine wpAny_truthy_bool ?_
  cases t with
  | false => exact hQ false s₃ _ (p0 rfl) ((R₁.trans R₂).trans R₃)
  | true =>
    refine test_last (p1 rfl A s₃ E _ rm (R₃.ext R₂.mu (R₂.ext R₁.mu (R₁.ext M ex))) (((F.res M R₁).res R₁.mu R₂).res R₂.mu R₃) R₃.mu fun d s₄ v₄ μ₄ p₄ R₄ q₄ => ?_)
    refine p₄ A s₄ E _ rm (R₄.ext R₃.mu (R₃.ext R₂.mu (R₂.ext R₁.mu (R₁.ext M ex)))) R₄.mu b d (Rep.res R₄ (Rep.res R₃ q₂)) q₄ fun c s₅ v μ₅ p R q => ?_
    obtain ⟨t, rfl, p⟩ := p
    obtain rfl : c = .bool t := q
    exact wpAny_truthy_bool (hQ t s₅ μ₅ p ((((R₁.trans R₂).trans R₃).trans R₄).trans R))
theorem Ts_not {x : Expr} {pos : Pos} {Φ : Bool → Mu → Prop} (h : Ts h₀ prog w n env ρ μ x fun b μ' => Φ (!b) μ') : Ts h₀ prog w n env ρ μ (.UnaryOp .Not x pos) Φ :=
  fun A s E Q rm ex F M hQ => wpAny_isTrue_Not (h A s E _ rm ex F M fun b s₁ μ₁ p R => hQ _ s₁ μ₁ p R)

def TsOr (h₀ : Heap) (prog : Program) (w : World) (n : Nat) (env : Env) (ρ : Str → Option V) (μ : Mu) (op : BoolOp) (es : List Expr) (Φ : Bool → Mu → Prop) : Prop :=
  ∀ (A : Around) (s : Shared) (E : Value → Shared → Prop) (Q : Bool → Shared → Prop), Room n A → Ext h₀ s.heap → Frm env ρ (dom μ) s.heap → MuOk h₀ μ s.heap →
    (∀ b s' μ', Φ b μ' → Res h₀ μ s μ' s' → Q b s') → wpAny (model prog w) A (allTrue op es env) Q E s
theorem Ts_bool {op : BoolOp} {es : List Expr} {pos : Pos} {Φ : Bool → Mu → Prop} (h : TsOr h₀ prog w n env ρ μ op es Φ) : Ts h₀ prog w n env ρ μ (.BoolOp op es pos) Φ :=
  fun A s E Q rm ex F M hQ => wpAny_isTrue_BoolOp (h A s E Q rm ex F M hQ)
theorem Or_nil {Φ : Bool → Mu → Prop} (h : Φ false μ) : TsOr h₀ prog w n env ρ μ .Or [] Φ := fun _ s _ _ _ _ _ M hQ => wpAny_allTrue_Or_nil (hQ false s μ h (.refl M))
theorem And_nil {Φ : Bool → Mu → Prop} (h : Φ true μ) : TsOr h₀ prog w n env ρ μ .And [] Φ := fun _ s _ _ _ _ _ M hQ => wpAny_allTrue_And_nil (hQ true s μ h (.refl M))
theorem Or_cons {e : Expr} {es : List Expr} {Φ : Bool → Mu → Prop} (h : Ts h₀ prog w n env ρ μ e fun b μ' => (b = true → Φ true μ') ∧ (b = false → TsOr h₀ prog w n env ρ μ' .Or es Φ)) : TsOr h₀ prog w n env ρ μ .Or (e :: es) Φ := by
  intro A s E Q rm ex F M hQ
  refine wpAny_allTrue_Or_cons (h A s E _ rm ex F M fun b s₁ μ₁ p R => ?_)
  cases b with
  | true => exact hQ true s₁ μ₁ (p.1 rfl) R
  | false => exact p.2 rfl A s₁ E Q rm (R.ext M ex) (F.res M R) R.mu fun b s₂ μ₂ p' R' => hQ b s₂ μ₂ p' (R.trans R')
theorem And_cons {e : Expr} {es : List Expr} {Φ : Bool → Mu → Prop} (h : Ts h₀ prog w n env ρ μ e fun b μ' => (b = false → Φ false μ') ∧ (b = true → TsOr h₀ prog w n env ρ μ' .And es Φ)) : TsOr h₀ prog w n env ρ μ .And (e :: es) Φ := by
  intro A s E Q rm ex F M hQ
  refine wpAny_allTrue_And_cons (h A s E _ rm ex F M fun b s₁ μ₁ p R => ?_)
  cases b with
  | false => exact hQ false s₁ μ₁ (p.1 rfl) R
  | true => exact p.2 rfl A s₁ E Q rm (R.ext M ex) (F.res M R) R.mu fun b s₂ μ₂ p' R' => hQ b s₂ μ₂ p' (R.trans R')

theorem Ev_if {t b o : Expr} {pos : Pos} {Φ : V → Mu → Prop}
    (h : Ts h₀ prog w n env ρ μ t fun c μ' => (c = true → Ev h₀ prog w n env ρ μ' b Φ) ∧ (c = false → Ev h₀ prog w n env ρ μ' o Φ)) : Ev h₀ prog w n env ρ μ (.IfExp t b o pos) Φ := by
  intro A s E Q rm ex F M hQ
  refine wpAny_IfExp (h A s E _ rm ex F M fun c s₁ μ₁ p R => ?_)
  cases c with
  | true => exact p.1 rfl A s₁ E Q rm (R.ext M ex) (F.res M R) R.mu fun r s₂ v μ₂ p' R' q => hQ r s₂ v μ₂ p' (R.trans R') q
  | false => exact p.2 rfl A s₁ E Q rm (R.ext M ex) (F.res M R) R.mu fun r s₂ v μ₂ p' R' q => hQ r s₂ v μ₂ p' (R.trans R') q
theorem Ev_and2 {x y : Expr} {pos : Pos} {Φ : V → Mu → Prop}
    (h : Ev h₀ prog w n env ρ μ x fun v μ' => ∃ b, v = .bool b ∧ (b = false → Φ (.bool false) μ') ∧ (b = true → Ev h₀ prog w n env ρ μ' y Φ)) : Ev h₀ prog w n env ρ μ (.BoolOp .And [x, y] pos) Φ := by
  intro A s E Q rm ex F M hQ
  refine wpAny_And2 (h A s E _ rm ex F M fun r s₁ v μ₁ p R q => ?_)
  obtain ⟨b, rfl, p0, p1⟩ := p
  obtain rfl : r = .bool b := q
  refine wpAny_truthy_bool ?_
  cases b with
  | false => exact hQ _ s₁ _ μ₁ (p0 rfl) R rfl
  | true => exact p1 rfl A s₁ E Q rm (R.ext M ex) (F.res M R) R.mu fun r s₂ v μ₂ p' R' q => hQ r s₂ v μ₂ p' (R.trans R') q

-- equality of data
mutual
def pd : V → PyData
  | .int i => .int i
  | .bool b => .bool b
  | .none => .none
  | .str s => .str s
  | .tup l => .tuple (pds l)
  | .lst l => .list (pds l)
  | .mt _ => .none
  | .fn _ => .none
def pds : List V → List PyData
  | [] => []
  | x :: l => pd x :: pds l
end
mutual
def isD : V → Bool
  | .int _ | .bool _ | .none => true
  | .tup l | .lst l => isDs l
  | .mt _ | .fn _ | .str _ => false
def isDs : List V → Bool
  | [] => true
  | x :: l => isD x && isDs l
end
mutual
theorem reads_pd {X : Addr → Prop} {h : Heap} : ∀ (x : V) (r : Value), isD x = true → Rep X h x r → ∃ as, Reads h r (pd x) as
  | .int i, _, _, ⟨t, e⟩ => ⟨[], e ▸ .int i t⟩
  | .bool b, _, _, e => ⟨[], (show _ = Value.bool b from e) ▸ .bool b⟩
  | .none, _, _, e => ⟨[], (show _ = Value.none from e) ▸ .none⟩
  | .str _, _, d, _ => nomatch d
  | .tup l, _, d, ⟨a, vs, n, e, _, g, q⟩ => let ⟨as, q'⟩ := reads_pds l _ (by simpa [isD] using d) q; ⟨as, e ▸ .tuple g rfl rfl q'⟩
  | .lst l, _, d, ⟨a, vs, n, e, _, g, q⟩ => let ⟨as, q'⟩ := reads_pds l _ (by simpa [isD] using d) q; ⟨a :: as, e ▸ .list g rfl rfl q'⟩
  | .mt _, _, d, _ => nomatch d
  | .fn _, _, d, _ => nomatch d
theorem reads_pds {X : Addr → Prop} {h : Heap} : ∀ (l : List V) (rs : List Value), isDs l = true → Reps X h l rs → ∃ as, ReadsAll h rs (pds l) as
  | [], _, _, q => ⟨[], by obtain rfl : _ = [] := q; exact .nil⟩
  | x :: l, _, d, ⟨r, rs, e, q1, q2⟩ => by
    have d' : isD x = true ∧ isDs l = true := by simpa [isDs] using d
    obtain ⟨as, h1⟩ := reads_pd x r d'.1 q1
    obtain ⟨bs, h2⟩ := reads_pds l rs d'.2 q2
    exact ⟨as ++ bs, e ▸ .cons h1 h2⟩
end
mutual
theorem canLay_pd : ∀ x : V, isD x = true → (pd x).canLay0 = true
  | .int _, _ => by simp [pd, PyData.canLay0]
  | .bool _, _ => by simp [pd, PyData.canLay0]
  | .none, _ => by simp [pd, PyData.canLay0]
  | .str _, d => by simp [isD] at d
  | .mt _, d => by simp [isD] at d
  | .fn _, d => by simp [isD] at d
  | .tup l, d => by simpa [pd, PyData.canLay0] using canLay_pds l (by simpa [isD] using d)
  | .lst l, d => by simpa [pd, PyData.canLay0] using canLay_pds l (by simpa [isD] using d)
theorem canLay_pds : ∀ l : List V, isDs l = true → PyData.canLayAll0 (pds l) = true
  | [], _ => by simp [pds, PyData.canLayAll0]
  | x :: l, d => by
    have d' : isD x = true ∧ isDs l = true := by simpa [isDs] using d
    simp [pds, PyData.canLayAll0, canLay_pd x d'.1, canLay_pds l d'.2]
end
theorem op_eqd {x y : V} {Φ : V → Mu → Prop} (dx : isD x = true) (dy : isD y = true) (hx : (pd x).depth ≤ 64) (hy : (pd y).depth ≤ 64) (h : Φ (.bool (PyData.eqv (pd x) (pd y))) μ) :
    Op2 h₀ prog w n μ (compareOp .Eq) x y Φ := by
  intro A s E Q rm ex M a b qa qb hQ
  obtain ⟨as, ra⟩ := reads_pd x a dx qa
  obtain ⟨bs, rb⟩ := reads_pd y b dy qb
  exact SeqAt.compareEq_shaped ra rb (by simp [SeqAt.shaped, canLay_pd _ dx, hx]) (by simp [SeqAt.shaped, canLay_pd _ dy, hy]) (by have := rm.units; omega) (hQ _ _ _ μ h (.refl M) rfl)
theorem op_ned {x y : V} {Φ : V → Mu → Prop} (dx : isD x = true) (dy : isD y = true) (hx : (pd x).depth ≤ 64) (hy : (pd y).depth ≤ 64) (h : Φ (.bool (!PyData.eqv (pd x) (pd y))) μ) :
    Op2 h₀ prog w n μ (compareOp .NotEq) x y Φ := by
  intro A s E Q rm ex M a b qa qb hQ
  obtain ⟨as, ra⟩ := reads_pd x a dx qa
  obtain ⟨bs, rb⟩ := reads_pd y b dy qb
  exact SeqAt.compareNe_shaped ra rb (by simp [SeqAt.shaped, canLay_pd _ dx, hx]) (by simp [SeqAt.shaped, canLay_pd _ dy, hy]) (by have := rm.units; omega) (hQ _ _ _ μ h (.refl M) rfl)
theorem op_in {x : V} {l : List V} {Φ : V → Mu → Prop} (dx : isD x = true) (dl : isDs l = true) (hx : (pd x).depth ≤ 8) (h : Φ (.bool ((pds l).any fun y => PyData.eqv y (pd x))) μ) :
    Op2 h₀ prog w n μ (compareOp .In) x (.lst l) Φ := by
  intro A s E Q rm ex M a b qa qb hQ
  obtain ⟨as, ra⟩ := reads_pd x a dx qa
  obtain ⟨bs, rb⟩ := reads_pd (.lst l) b dl qb
  refine SeqAt.in_list_reads rb ra (canLay_pds l dl) (canLay_pd x dx) ?_ (hQ _ _ _ μ h (.refl M) rfl)
  have := rm.units; omega
end

end Mine
end

section
open PySem PySem.Calls PyProof.Rows PySem.W
namespace Mine

/-- the state of a def's frame, since its call at s₀ -/
structure FS (B : Str → Prop) (h₀ : Heap) (s₀ : Shared) (μ₀ : Mu) (env : Env) (ρ : Str → Option V) (μ : Mu) (s : Shared) : Prop where
  frm : Frm env ρ (dom μ) s.heap
  res : Res h₀ μ₀ s₀ μ s
  ext0 : Ext h₀ s₀.heap
  new0 : ∀ a, dom μ₀ a → h₀.get? a = none
  freshL : s₀.heap.get? env.locals = none
  freshC : ∀ x c, B x → env.kindOf x = some .cell → env.cells.lookup x = some c → s₀.heap.get? c = none

theorem FS.ext {B : Str → Prop} {h₀ : Heap} {s₀ : Shared} {μ₀ : Mu} {env : Env} {ρ : Str → Option V} {μ : Mu} {s : Shared} (F : FS B h₀ s₀ μ₀ env ρ μ s) : Ext h₀ s.heap := fun b o e =>
  F.res.keep b o (fun d => by have := F.new0 b d; rw [e] at this; cases this) (F.ext0 b o e)
theorem FS.ev {B : Str → Prop} {h₀ : Heap} {s₀ : Shared} {μ₀ : Mu} {env : Env} {ρ : Str → Option V} {μ μ' : Mu} {s s' : Shared} (F : FS B h₀ s₀ μ₀ env ρ μ s) (R : Res h₀ μ s μ' s') : FS B h₀ s₀ μ₀ env ρ μ' s' :=
  ⟨F.frm.res F.res.mu R, F.res.trans R, F.ext0, F.new0, F.freshL, F.freshC⟩

theorem solid_notDict {h : Heap} {a L : Addr} {o : Obj} {m} (so : Solid o) (g : h.get? a = some o) (n : h.Ns L m) : a ≠ L := fun e => by
  subst e
  obtain ⟨o', es, ep, g', d, _⟩ := n
  rw [g] at g'; cases g'
  rcases so with ⟨_, _, q⟩ | ⟨_, q⟩ <;> (rw [q] at d; cases d)
theorem solid_notCell {h : Heap} {a L : Addr} {o : Obj} {m} (so : Solid o) (g : h.get? a = some o) (n : h.IsCell L m) : a ≠ L := fun e => by
  subst e
  obtain ⟨o', g', d⟩ := n
  rw [g] at g'; cases g'
  rcases so with ⟨_, _, q⟩ | ⟨_, q⟩ <;> (rw [q] at d; cases d)
theorem dict_notCell {h : Heap} {L c : Addr} {m v} (n : h.Ns L m) (i : h.IsCell c v) : c ≠ L := fun e => by
  subst e
  obtain ⟨o', es, ep, g', d, _⟩ := n
  obtain ⟨o, g, d'⟩ := i
  rw [g] at g'; cases g'
  rw [d'] at d; cases d

theorem MuOk.trans {h₀ h h' : Heap} {μ : Mu} (M : MuOk h₀ μ h) (T : Trans (dom μ) h (dom μ) h') (k : ∀ a vs n, h.get? a = some (lstObj vs n) → h'.get? a = some (lstObj vs n)) : MuOk h₀ μ h' :=
  ⟨fun a l e => let ⟨vs, n, g, q⟩ := M.at_ a l e; ⟨vs, n, k _ _ _ g, Reps.mono T _ _ q⟩, M.new⟩

section
variable {h₀ : Heap} {prog : Program} {w : World} {n : Nat} {env : Env} {ρ : Str → Option V} {μ : Mu} {s₀ s : Shared} {μ₀ : Mu} {A : Around} {B : Str → Prop} {E : Value → Shared → Prop}

def stoKind (env : Env) (x : Str) : Bool := env.kindOf x == some .local || env.kindOf x == some .cell

def NDC (o : Obj) : Prop := (∀ es ep, o.data ≠ .dict es ep) ∧ ∀ v, o.data ≠ .cell v
def KeepN (h h' : Heap) : Prop := ∀ b o, NDC o → h.get? b = some o → h'.get? b = some o
theorem Solid.ndc {o : Obj} (s : Solid o) : NDC o := by
  rcases s with ⟨_, _, e⟩ | ⟨_, e⟩
  · exact ⟨fun _ _ q => (by rw [e] at q; cases q), fun _ q => (by rw [e] at q; cases q)⟩
  · exact ⟨fun _ _ q => (by rw [e] at q; cases q), fun _ q => (by rw [e] at q; cases q)⟩
theorem KeepN.trans_ {h h' : Heap} (k : KeepN h h') {X : Addr → Prop} : Trans X h X h' := fun a o so nx g => ⟨nx, k a o so.ndc g⟩
theorem KeepN.of_ext {h h' : Heap} (k : Ext h h') : KeepN h h' := fun b o _ g => k b o g
theorem KeepN.trans {h h' h'' : Heap} (a : KeepN h h') (b : KeepN h' h'') : KeepN h h'' := fun x o nd g => b x o nd (a x o nd g)
theorem keepN_dict {h h' : Heap} {L : Addr} {m} (n : h.Ns L m) (hs : Heap.SameBut L h h') : KeepN h h' := fun b o nd g => (hs.2 b (fun e => by
  subst e
  obtain ⟨o', es, ep, g', d, _⟩ := n
  rw [g] at g'; cases g'
  exact nd.1 _ _ d)).trans g
theorem keepN_cell {h h' : Heap} {L : Addr} {v} (n : h.IsCell L v) (hs : Heap.SameBut L h h') : KeepN h h' := fun b o nd g => (hs.2 b (fun e => by
  subst e
  obtain ⟨o', g', d⟩ := n
  rw [g] at g'; cases g'
  exact nd.2 _ d)).trans g

theorem FS.stoL {M : Model} {x : Str} {v : V} {r : Value} {Q : Unit → Shared → Prop} (F : FS B h₀ s₀ μ₀ env ρ μ s) (hk : env.kindOf x = some .local) (q : Rep (dom μ) s.heap v r)
    (h : ∀ s', FS B h₀ s₀ μ₀ env (upd ρ x v) μ s' → KeepN s.heap s'.heap → Heap.SameBut env.locals s.heap s'.heap → Q () s') : wpAny M A (storeName env x r) Q E s := by
  obtain ⟨ml, nl, hl⟩ := F.frm.ns
  obtain ⟨hh, tk, es⟩ := F.res.same
  refine wpAny_storeName_local hk nl (fun h' hn' hs' => ?_) (by rw [F.frm.kind]; rfl)
  have KN := keepN_dict nl hs'
  have T : Trans (dom μ) s.heap (dom μ) h' := KN.trans_
  refine h _ ⟨⟨F.frm.kind, F.frm.gl, F.frm.bl, ⟨_, hn', fun y u ky ey => ?_⟩, fun y u ky ey => ?_, fun y ky => ?_, F.frm.apart⟩, ⟨?_, fun b o nd e => ?_, F.res.mu.trans T fun a vs k g => KN a _ (Solid.ndc (.inl ⟨_, _, rfl⟩)) g, F.res.grow, F.res.fresh⟩, F.ext0, F.new0, F.freshL, F.freshC⟩ KN hs'
  · by_cases hy : y = x
    · subst hy
      simp [upd] at ey; subst ey
      exact ⟨r, by simp, Rep.mono T _ _ q⟩
    · simp [upd, hy] at ey
      obtain ⟨r', e', q'⟩ := hl y u ky ey
      exact ⟨r', by simp [hy, e'], Rep.mono T _ _ q'⟩
  · have hy : y ≠ x := fun e => by subst e; rw [hk] at ky; rcases ky with ky | ky <;> cases ky
    simp [upd, hy] at ey
    obtain ⟨c, r', e', i, q'⟩ := F.frm.cell y u ky ey
    exact ⟨c, r', e', i.sameBut hs' (dict_notCell nl i), Rep.mono T _ _ q'⟩
  · obtain ⟨c, o, e', i⟩ := F.frm.own y ky
    exact ⟨c, o, e', i.sameBut hs' (dict_notCell nl i)⟩
  · subst es; exact ⟨_, _, rfl⟩
  · exact (hs'.2 b (fun e' => by subst e'; rw [F.freshL] at e; cases e)).trans (F.res.keep b o nd e)

theorem FS.sto {M : Model} {x : Str} {v : V} {r : Value} {Q : Unit → Shared → Prop} (F : FS B h₀ s₀ μ₀ env ρ μ s) (hB : B x) (hk : stoKind env x = true) (q : Rep (dom μ) s.heap v r)
    (h : ∀ s', FS B h₀ s₀ μ₀ env (upd ρ x v) μ s' → KeepN s.heap s'.heap → Q () s') : wpAny M A (storeName env x r) Q E s := by
  unfold stoKind at hk
  simp only [Bool.or_eq_true, beq_iff_eq] at hk
  obtain ⟨ml, nl, hl⟩ := F.frm.ns
  obtain ⟨hh, tk, es⟩ := F.res.same
  rcases hk with hk | hk
  · exact F.stoL hk q fun s' F' kn _ => h s' F' kn
  · obtain ⟨c, o, hc, i⟩ := F.frm.own x hk
    refine wpAny_storeName_cell F.frm.kind hk hc i fun h' hi' hs' => ?_
    have KN := keepN_cell i hs'
    have T : Trans (dom μ) s.heap (dom μ) h' := KN.trans_
    refine h _ ⟨⟨F.frm.kind, F.frm.gl, F.frm.bl, ⟨ml, nl.sameBut hs' (dict_notCell nl i).symm, fun y u ky ey => ?_⟩, fun y u ky ey => ?_, fun y ky => ?_, F.frm.apart⟩, ⟨?_, fun b o nd e => ?_, F.res.mu.trans T fun a vs k g => KN a _ (Solid.ndc (.inl ⟨_, _, rfl⟩)) g, F.res.grow, F.res.fresh⟩, F.ext0, F.new0, F.freshL, F.freshC⟩ KN
    · have hy : y ≠ x := fun e => by subst e; rw [hk] at ky; cases ky
      simp [upd, hy] at ey
      obtain ⟨r', e', q'⟩ := hl y u ky ey
      exact ⟨r', e', Rep.mono T _ _ q'⟩
    · by_cases hy : y = x
      · subst hy
        simp [upd] at ey; subst ey
        exact ⟨c, r, hc, hi', Rep.mono T _ _ q⟩
      · simp [upd, hy] at ey
        obtain ⟨c', r', e', i', q'⟩ := F.frm.cell y u ky ey
        exact ⟨c', r', e', i'.sameBut hs' (fun e => hy (F.frm.apart y x c' e' (e ▸ hc))), Rep.mono T _ _ q'⟩
    · by_cases hy : y = x
      · subst hy; exact ⟨c, _, hc, hi'⟩
      · obtain ⟨c', o', e', i'⟩ := F.frm.own y ky
        exact ⟨c', o', e', i'.sameBut hs' (fun e => hy (F.frm.apart y x c' e' (e ▸ hc)))⟩
    · subst es; exact ⟨_, _, rfl⟩
    · exact (hs'.2 b (fun e' => by subst e'; rw [F.freshC x b hB hk hc] at e; cases e)).trans (F.res.keep b o nd e)
end

def AllB : Str → Prop := fun _ => True

/-- what a statement leaves of the state ahead of it -/
structure Mid (μ : Mu) (s : Shared) (μ' : Mu) (s' : Shared) : Prop where
  keep : ∀ b o, NDC o → ¬ dom μ b → s.heap.get? b = some o → s'.heap.get? b = some o
  fresh : ∀ b o, NDC o → dom μ' b → ¬ dom μ b → s.heap.get? b ≠ some o
theorem Mid.of_res {h₀ : Heap} {μ μ' : Mu} {s s' : Shared} (R : Res h₀ μ s μ' s') : Mid μ s μ' s' := ⟨fun b o _ nd g => R.keep b o nd g, fun b o _ d nd e => by rw [R.fresh b d nd] at e; cases e⟩
theorem Mid.of_keepN {μ : Mu} {s s' : Shared} (k : KeepN s.heap s'.heap) : Mid μ s μ s' := ⟨fun b o n _ g => k b o n g, fun _ _ _ d nd _ => nd d⟩
theorem Mid.refl {μ : Mu} {s : Shared} : Mid μ s μ s := ⟨fun _ _ _ _ g => g, fun _ _ _ d nd _ => nd d⟩
theorem Mid.trans {μ μ' μ'' : Mu} {s s' s'' : Shared} (a : Mid μ s μ' s') (b : Mid μ' s' μ'' s'') : Mid μ s μ'' s'' where
  keep := fun x o n nd g => b.keep x o n (fun d => a.fresh x o n d nd g) (a.keep x o n nd g)
  fresh := fun x o n d nd e => by
    by_cases d' : dom μ' x
    · exact a.fresh x o n d' nd e
    · exact b.fresh x o n d d' (a.keep x o n nd e)
theorem Mid.trans_ {μ μ' : Mu} {s s' : Shared} (a : Mid μ s μ' s') : Trans (dom μ) s.heap (dom μ') s'.heap := fun x o so nx g => ⟨fun d => a.fresh x o so.ndc d nx g, a.keep x o so.ndc nx g⟩

inductive Fl where
  | next
  | brk
  | cont
  | ret (v : V)
def FlRep (X : Addr → Prop) (h : Heap) : Fl → Flow → Prop
  | .next, f => f = .next
  | .brk, f => f = .brk
  | .cont, f => f = .cont
  | .ret v, f => ∃ r, f = .ret r ∧ Rep X h v r

section
variable (h₀ : Heap) (prog : Program) (w : World) (n : Nat)
def Ex (env : Env) (ρ : Str → Option V) (μ : Mu) (st : Stmt) (Φ : Fl → (Str → Option V) → Mu → Prop) : Prop :=
  ∀ (A : Around) (s₀ : Shared) (μ₀ : Mu) (s : Shared) (E : Value → Shared → Prop) (Q : Flow → Shared → Prop), Room n A → FS AllB h₀ s₀ μ₀ env ρ μ s →
    (∀ fl f s' ρ' μ', Φ fl ρ' μ' → FS AllB h₀ s₀ μ₀ env ρ' μ' s' → Mid μ s μ' s' → FlRep (dom μ') s'.heap fl f → Q f s') → wpAny (model prog w) A (exec st env) Q E s
def Exs (env : Env) (ρ : Str → Option V) (μ : Mu) (sts : List Stmt) (Φ : Fl → (Str → Option V) → Mu → Prop) : Prop :=
  ∀ (A : Around) (s₀ : Shared) (μ₀ : Mu) (s : Shared) (E : Value → Shared → Prop) (Q : Flow → Shared → Prop), Room n A → FS AllB h₀ s₀ μ₀ env ρ μ s →
    (∀ fl f s' ρ' μ', Φ fl ρ' μ' → FS AllB h₀ s₀ μ₀ env ρ' μ' s' → Mid μ s μ' s' → FlRep (dom μ') s'.heap fl f → Q f s') → wpAny (model prog w) A (execs sts env) Q E s
end

section
variable {mg mb : Str → Option Value} {K : Frag} {h₀ : Heap} {prog : Program} {w : World} {n : Nat} {env : Env} {ρ : Str → Option V} {μ : Mu}

theorem Ex.mono {st : Stmt} {Φ Ψ : Fl → (Str → Option V) → Mu → Prop} (h : Ex h₀ prog w n env ρ μ st Φ) (k : ∀ a b c, Φ a b c → Ψ a b c) : Ex h₀ prog w n env ρ μ st Ψ :=
  fun A s₀ μ₀ s E Q rm F hQ => h A s₀ μ₀ s E Q rm F fun fl f s' ρ' μ' p => hQ fl f s' ρ' μ' (k _ _ _ p)
theorem Exs.mono {st : List Stmt} {Φ Ψ : Fl → (Str → Option V) → Mu → Prop} (h : Exs h₀ prog w n env ρ μ st Φ) (k : ∀ a b c, Φ a b c → Ψ a b c) : Exs h₀ prog w n env ρ μ st Ψ :=
  fun A s₀ μ₀ s E Q rm F hQ => h A s₀ μ₀ s E Q rm F fun fl f s' ρ' μ' p => hQ fl f s' ρ' μ' (k _ _ _ p)

theorem Exs_nil {Φ : Fl → (Str → Option V) → Mu → Prop} (h : Φ .next ρ μ) : Exs h₀ prog w n env ρ μ [] Φ := fun _ _ _ s _ _ _ F hQ => wpAny_execs_nil (hQ .next .next s ρ μ h F .refl rfl)
theorem Exs_cons {st : Stmt} {sts : List Stmt} {Φ : Fl → (Str → Option V) → Mu → Prop}
    (h : Ex h₀ prog w n env ρ μ st fun fl ρ' μ' => match fl with | .next => Exs h₀ prog w n env ρ' μ' sts Φ | fl => Φ fl ρ' μ') : Exs h₀ prog w n env ρ μ (st :: sts) Φ := by
  intro A s₀ μ₀ s E Q rm F hQ
  refine wpAny_execs_cons (h A s₀ μ₀ s E _ rm F fun fl f s' ρ' μ' p F' m q => ?_)
  cases fl with
  | next => obtain rfl : f = .next := q; exact p A s₀ μ₀ s' E Q rm F' fun fl f s'' ρ'' μ'' p F'' m' q => hQ fl f s'' ρ'' μ'' p F'' (m.trans m') q
  | brk => obtain rfl : f = .brk := q; exact hQ _ _ s' ρ' μ' p F' m rfl
  | cont => obtain rfl : f = .cont := q; exact hQ _ _ s' ρ' μ' p F' m rfl
  | ret v => obtain ⟨r, rfl, q⟩ := q; exact hQ (.ret v) _ s' ρ' μ' p F' m ⟨r, rfl, q⟩

theorem Ex_assign {x : Str} {p : Pos} {e : Expr} {pos : Pos} {Φ : Fl → (Str → Option V) → Mu → Prop} (hk : stoKind env x = true)
    (h : Ev h₀ prog w n env ρ μ e fun v μ' => Φ .next (upd ρ x v) μ')
    (hs : swapsWith e (some (.Name x p)) pos.line env = pure false := by rfl) : Ex h₀ prog w n env ρ μ (.Assign [.Name x p] e pos) Φ := by
  intro A s₀ μ₀ s E Q rm F hQ
  refine wpAny_Assign_Name (h A s E _ rm F.ext F.frm F.res.mu fun r s₁ v μ₁ p₁ R₁ q₁ => ?_) hs
  exact (F.ev R₁).sto trivial hk q₁ fun s' F' kn => hQ .next .next s' _ μ₁ p₁ F' ((Mid.of_res R₁).trans (.of_keepN kn)) rfl

theorem Ex_assign2s {x y : Str} {px py : Pos} {k : Nat} {tp : Pos} {e : Expr} {pos : Pos} {Φ : Fl → (Str → Option V) → Mu → Prop} (hx : stoKind env x = true) (hy : stoKind env y = true)
    (h : Ev h₀ prog w n env ρ μ e fun v μ' => ∃ a b, v = .tup [a, b] ∧ Φ .next (upd (upd ρ y b) x a) μ')
    (hs : swapsWithSole [.Tuple [.Name x px, .Name y py] k tp] e pos.line env = pure false := by rfl)
    (hw : swappedStores [.Tuple [.Name x px, .Name y py] k tp] e env = pure (some [x, y]) := by rfl) : Ex h₀ prog w n env ρ μ (.Assign [.Tuple [.Name x px, .Name y py] k tp] e pos) Φ := by
  intro A s₀ μ₀ s E Q rm F hQ
  refine Assign_Tuple_swapped (h A s E _ rm F.ext F.frm F.res.mu fun r s₁ v μ₁ p₁ R₁ q₁ => ?_) hs hw
  obtain ⟨a, b, rfl, p₁⟩ := p₁
  obtain ⟨t, vs, k, rfl, nx, g, q⟩ := q₁
  obtain ⟨ra, rs, e1, qa, q⟩ := q
  obtain ⟨rb, rs', e2, qb, q⟩ := q
  obtain rfl := q.nil_inv
  have hz : vs.size = 2 := by have : vs.toList.length = 2 := by rw [e1, e2]; rfl
                              simpa using this
  rw [show ([x, y] : List Str).length = vs.size from hz.symm]
  refine unpackItems_tuple rm.handled ⟨_, g, rfl, k, rfl⟩ fun h' he' => ?_
  have kp : Ext s₁.heap h' := fun b o e => he' b o (Nat.ne_of_lt (Heap.lt_size e)) e
  rw [e1, e2]
  have F₁ := F.ev R₁
  have F₂ := F₁.ev (.of_ext (tk := s₁.toks) F₁.res.mu kp)
  show wpAny _ _ (do holding [ra] (bindName env y rb); holding [] (bindName env x ra); pure ()) _ _ _
  refine wpAny_bind (wpAny_holding (wpAny_bindName (F₂.sto trivial hy (Rep.mono (.of_ext kp) _ _ qb) fun s₃ F₃ T₃ => ?_)))
  refine wpAny_bind (wpAny_holding (wpAny_bindName (F₃.sto trivial hx (Rep.mono T₃.trans_ _ _ (Rep.mono (.of_ext kp) _ _ qa)) fun s₄ F₄ T₄ => ?_)))
  exact wpAny_pure (hQ .next .next s₄ _ μ₁ p₁ F₄ ((Mid.of_res R₁).trans (.of_keepN (((KeepN.of_ext kp).trans T₃).trans T₄))) rfl)

theorem Ex_ret {e : Expr} {pos : Pos} {Φ : Fl → (Str → Option V) → Mu → Prop} (h : Ev h₀ prog w n env ρ μ e fun v μ' => Φ (.ret v) ρ μ') : Ex h₀ prog w n env ρ μ (.Return (some e) pos) Φ := by
  intro A s₀ μ₀ s E Q rm F hQ
  exact wpAny_Return_some (h A s E _ rm F.ext F.frm F.res.mu fun r s₁ v μ₁ p₁ R₁ q₁ => hQ (.ret v) _ s₁ ρ μ₁ p₁ (F.ev R₁) (.of_res R₁) ⟨r, rfl, q₁⟩)
theorem Ex_retNone {pos : Pos} {Φ : Fl → (Str → Option V) → Mu → Prop} (h : Φ (.ret .none) ρ μ) : Ex h₀ prog w n env ρ μ (.Return none pos) Φ :=
  fun _ _ _ s _ _ _ F hQ => wpAny_Return_none (hQ (.ret .none) _ s ρ μ h F .refl ⟨_, rfl, rfl⟩)
theorem Ex_cont {pos : Pos} {Φ : Fl → (Str → Option V) → Mu → Prop} (h : Φ .cont ρ μ) : Ex h₀ prog w n env ρ μ (.Continue pos) Φ :=
  fun _ _ _ s _ _ _ F hQ => wpAny_Continue (hQ .cont _ s ρ μ h F .refl rfl)
theorem Ex_if {t : Expr} {b o : List Stmt} {pos : Pos} {Φ : Fl → (Str → Option V) → Mu → Prop}
    (h : Ts h₀ prog w n env ρ μ t fun c μ' => (c = true → Exs h₀ prog w n env ρ μ' b Φ) ∧ (c = false → Exs h₀ prog w n env ρ μ' o Φ)) : Ex h₀ prog w n env ρ μ (.If t b o pos) Φ := by
  intro A s₀ μ₀ s E Q rm F hQ
  refine wpAny_If (h A s E _ rm F.ext F.frm F.res.mu fun c s₁ μ₁ p R => ?_)
  cases c with
  | true => exact p.1 rfl A s₀ μ₀ s₁ E Q rm (F.ev R) fun fl f s'' ρ'' μ'' p F'' m' q => hQ fl f s'' ρ'' μ'' p F'' ((Mid.of_res R).trans m') q
  | false => exact p.2 rfl A s₀ μ₀ s₁ E Q rm (F.ev R) fun fl f s'' ρ'' μ'' p F'' m' q => hQ fl f s'' ρ'' μ'' p F'' ((Mid.of_res R).trans m') q
theorem Ex_expr {e : Expr} {pos : Pos} {Φ : Fl → (Str → Option V) → Mu → Prop} (h : Ev h₀ prog w n env ρ μ e fun v μ' => v = .none ∧ Φ .next ρ μ')
    (hi : interactive env = false := by rfl) (hs : swapsWith e none pos.line env = pure false := by rfl) : Ex h₀ prog w n env ρ μ (.Expr e pos) Φ := by
  intro A s₀ μ₀ s E Q rm F hQ
  refine wpAny_Expr (h A s E _ rm F.ext F.frm F.res.mu fun r s₁ v μ₁ p₁ R₁ q₁ => ?_) hi hs
  obtain ⟨rfl, p₁⟩ := p₁
  obtain rfl : r = .none := q₁
  exact hQ .next .next s₁ ρ μ₁ p₁ (F.ev R₁) (.of_res R₁) rfl

-- a def's call
def bindV : List (Str × V) → (Str → Option V) → (Str → Option V)
  | [], m => m
  | (x, v) :: r, m => bindV r (upd m x v)

theorem bindV_rel {X : Addr → Prop} {h : Heap} (kd : Str → Option NameKind) : ∀ (ps : List Str) (xs : List V) (rs : List Value) (m : Str → Option V) (ml mc : Str → Option Value), Reps X h xs rs →
    (∀ x v, kd x = some .local → m x = some v → ∃ r, ml x = some r ∧ Rep X h v r) → (∀ x v, kd x ≠ some .local → m x = some v → ∃ r, mc x = some r ∧ Rep X h v r) →
    (∀ x v, kd x = some .local → bindV (ps.zip xs) m x = some v → ∃ r, bindL kd (ps.zip rs) ml x = some r ∧ Rep X h v r) ∧ (∀ x v, kd x ≠ some .local → bindV (ps.zip xs) m x = some v → ∃ r, bindC kd (ps.zip rs) mc x = some r ∧ Rep X h v r)
  | [], xs, rs, m, ml, mc, _, h1, h2 => by simpa [bindV, bindL, bindC] using ⟨h1, h2⟩
  | p :: ps, [], rs, m, ml, mc, q, h1, h2 => by obtain rfl := q.nil_inv; simpa [bindV, bindL, bindC] using ⟨h1, h2⟩
  | p :: ps, v :: xs, rs, m, ml, mc, q, h1, h2 => by
    obtain ⟨r, rs', rfl, q1, q2⟩ := q
    simp only [List.zip_cons_cons, bindV, bindL, bindC]
    refine bindV_rel kd ps xs rs' _ _ _ q2 (fun x u kx e => ?_) fun x u kx e => ?_
    · by_cases hx : x = p
      · subst hx; simp [upd] at e; subst e; rw [if_pos kx]; exact ⟨r, by simp, q1⟩
      · simp [upd, hx] at e
        obtain ⟨r', e', q'⟩ := h1 x u kx e
        split
        · exact ⟨r', by simp [hx, e'], q'⟩
        · exact ⟨r', e', q'⟩
    · by_cases hx : x = p
      · subst hx; simp [upd] at e; subst e; rw [if_neg kx]; exact ⟨r, by simp, q1⟩
      · simp [upd, hx] at e
        obtain ⟨r', e', q'⟩ := h2 x u kx e
        split
        · exact ⟨r', e', q'⟩
        · exact ⟨r', by simp [hx, e'], q'⟩
theorem bindV_none : ∀ (l : List (Str × V)) (m : Str → Option V) (x : Str), x ∉ l.map (·.1) → bindV l m x = m x
  | [], _, _, _ => rfl
  | (y, v) :: r, m, x, h => by
    simp only [List.map_cons, List.mem_cons, not_or] at h
    rw [bindV, bindV_none r _ x h.2]
    simp [upd, h.1]

theorem Fn_def (G : Gd mg mb K h₀) {f : Addr} {o : Obj} {fd : FuncData} {body : List Stmt} {ps : List Str} {xs : List V} {Φ : V → Mu → Prop}
    (ho : K.lookup f = some o) (hd : o.data = .func fd) (hb : fd.body = .stmts body) (hcl : fd.closure = []) (hcd : codeIn K fd.code fd.qualname = true)
    (hbind : ∀ vals : List Value, vals.length = ps.length → bindArgs fd ⟨vals, []⟩ = pure (ps.zip vals)) (hlen : xs.length = ps.length)
    (hkind : (ps.all fun y => fd.scope.names.lookup y == some .local || fd.scope.names.lookup y == some .cell) = true)
    (hgl : fd.globals = mainGlobals) (hbl : fd.builtins = builtinsNs)
    (hco : fd.scope.isCoroutine = false) (hgen : fd.scope.isGenerator = false) (hk : fd.scope.kind = .function)
    (h : ∀ L, Exs h₀ prog w n (callEnvC fd L f) (bindV (ps.zip xs) fun _ => none) μ body fun fl _ μ' => match fl with | .ret v => Φ v μ' | .next => Φ .none μ' | _ => False) :
    Fn h₀ prog w (n + 1) (.ref f) μ xs Φ := by
  intro A s E Q rm ex M as q hQ
  have hlen' : as.length = ps.length := q.length.trans hlen
  have hkinds : ∀ x ∈ ps.zip as, fd.scope.names.lookup x.1 = some .local ∨ (fd.scope.names.lookup x.1 = some .cell ∧ ((cellsFrom (s.heap.objs.size + 1) fd.scope.names []).lookup x.1).isSome = true) := fun x hx => by
    have := List.all_eq_true.mp hkind x.1 (List.of_mem_zip hx).1
    simp only [Bool.or_eq_true, beq_iff_eq] at this
    exact this.imp id fun e => ⟨e, cellsFrom_some _ _ _ (.inl e)⟩
  refine wpAny_call (codeAny_call_cells (by have := rm.depth; omega) (ex _ _ (G.X _ _ ho)) hd (G.nolimit.keeps ex) (codeRec_of (G.X.keeps ex) hcd) hb (hbind as hlen') hcl hkinds ?_ hco hgen hk)
  intro s₁ I
  have hpl : PlainEnv (callEnvC fd s.heap.objs.size f) := ⟨hgen, hco, hbl, hgl⟩
  obtain ⟨h1, tk1, es1⟩ := I.toInCall.same
  have kp : Ext s.heap s₁.heap := I.toInCall.keep
  have q₁ : Reps (dom μ) s₁.heap xs as := Reps.mono (.of_ext kp) _ _ q
  have rel := bindV_rel (X := dom μ) (h := s₁.heap) (callEnvC fd s.heap.objs.size f).kindOf ps xs as (fun _ => none) (fun _ => none) (fun _ => none) q₁ (fun _ _ _ e => nomatch e) fun _ _ _ e => nomatch e
  have own : ∀ x, (callEnvC fd s.heap.objs.size f).kindOf x = some .cell → ∃ c, (callEnvC fd s.heap.objs.size f).cells.lookup x = some c := fun x kx =>
    Option.isSome_iff_exists.mp (cellsFrom_some (x := x) fd.scope.names (s.heap.objs.size + 1) [] (.inl kx))
  have fresh : ∀ c, s.heap.objs.size ≤ c → s.heap.get? c = none := fun c hc => by
    cases e : s.heap.get? c with
    | none => rfl
    | some o => exact absurd (Heap.lt_size e) (Nat.not_lt.mpr hc)
  have F₁ : FS AllB h₀ s μ (callEnvC fd s.heap.objs.size f) (bindV (ps.zip xs) fun _ => none) μ s₁ := by
    refine ⟨⟨hk, hgl, hbl, ⟨_, I.toInCall.ns, rel.1⟩, fun x v kx e => ?_, fun x kx => ?_, fun x y c ex ey => ?_⟩, ⟨⟨h1, tk1, es1⟩, fun b o _ e => kp b o e, M.ext kp, fun _ d => d, fun _ d nd => absurd d nd⟩, ex, M.new, fresh _ I.toInCall.fresh, fun x c _ _ hc => fresh c ?_⟩
    · have hp : x ∈ ps := by
        by_cases hx : x ∈ (ps.zip xs).map (·.1)
        · rw [List.map_fst_zip (by omega)] at hx; exact hx
        · rw [bindV_none _ _ _ hx] at e; cases e
      have hkx := List.all_eq_true.mp hkind x hp
      simp only [Bool.or_eq_true, beq_iff_eq] at hkx
      have hcx : (callEnvC fd s.heap.objs.size f).kindOf x = some .cell := by
        rcases kx with kx | kx
        · exact kx
        · have kx' : fd.scope.names.lookup x = some .free := kx
          rw [kx'] at hkx; rcases hkx with e | e <;> cases e
      obtain ⟨c, hc⟩ := own x hcx
      obtain ⟨r, er, qr⟩ := rel.2 x v (by rw [hcx]; decide) e
      exact ⟨c, r, hc, er ▸ I.cell x c hc, qr⟩
    · obtain ⟨c, hc⟩ := own x kx
      exact ⟨c, _, hc, I.cell x c hc⟩
    · exact name_of_addr I.apart (mem_of_lookup ex) (mem_of_lookup ey)
    · have h1 := I.above x c (mem_of_lookup hc)
      have h2 := I.toInCall.fresh
      exact Nat.le_of_lt (Nat.lt_of_le_of_lt h2 h1)
  refine h _ _ s μ s₁ _ _ (rm.deeper hpl) F₁ fun fl fw s' ρ' μ' p F' _ qf => ?_
  cases fl with
  | next => obtain rfl : fw = .next := qf; exact hQ .none s' .none μ' p F'.res rfl
  | brk => exact p.elim
  | cont => exact p.elim
  | ret v => obtain ⟨r, rfl, qr⟩ := qf; exact hQ r s' v μ' p F'.res qr
end

end Mine
end

section
open PySem PySem.Calls PyProof.Rows PySem.W
namespace Mine

/-- one draw, with what a tuple target lets go -/
def NextLet (M : Model) (A : Around) (target : Expr) (it : Value) (Q : Option Value → Shared → Prop) (E : Value → Shared → Prop) (s : Shared) : Prop :=
  wpAny M A (pyNext it) (fun r s₁ => match r with
    | none => Q none s₁
    | some v => wpAny M A (letOwnedTupleGo target it v) (fun _ s₂ => Q (some v) s₂) E s₁) E s

def isName : Expr → Bool
  | .Name .. => true
  | _ => false
def isTuple : Expr → Bool
  | .Tuple .. => true
  | _ => false

structure Itr (prog : Program) (w : World) (A : Around) (target : Expr) (X : Addr → Prop) (items : List V) (it : Value) (own : List Addr) (St : Nat → Heap → Prop) : Prop where
  frame : ∀ i h h', St i h → (∀ b ∈ own, ∀ o, h.get? b = some o → h'.get? b = some o) → Trans X h X h' → St i h'
  objs : ∀ i h, St i h → ∀ b ∈ own, ∃ o vs, h.get? b = some o ∧ o.data = .fields vs
  item : ∀ i (s : Shared) (Q : Option Value → Shared → Prop) (E : Value → Shared → Prop) x, items[i]? = some x → (∀ b, X b → ∃ o, s.heap.get? b = some o) → St i s.heap →
    (∀ r h' tk, Rep X h' x r → St (i + 1) h' → (∀ b o, b ∉ own → s.heap.get? b = some o → h'.get? b = some o) → Q (some r) { s with heap := h', toks := tk }) → NextLet (model prog w) A target it Q E s
  self : ∀ i (s : Shared) (Q : Value → Shared → Prop) (E : Value → Shared → Prop), St i s.heap → Q it s → wpAny (model prog w) A (pyIter it) Q E s
  done : ∀ (s : Shared) (Q : Option Value → Shared → Prop) (E : Value → Shared → Prop), St items.length s.heap →
    (∀ h' tk, (∀ b o, b ∉ own → s.heap.get? b = some o → h'.get? b = some o) → Q none { s with heap := h', toks := tk }) → NextLet (model prog w) A target it Q E s

theorem wp_nextLet_name {M : Model} {A : Around} {s : Shared} {Q : Option Value → Shared → Prop} {E : Value → Shared → Prop} {t : Expr} {it : Value} (h : isName t = true) (hq : wpAny M A (pyNext it) Q E s) : NextLet M A t it Q E s := by
  cases t with
  | Name x p =>
    refine wpAny_mono hq (fun r s' q => ?_) fun _ _ e => e
    cases r with
    | none => exact q
    | some v => exact wpAny_pure q
  | _ => cases h

theorem fields_notSolid {o : Obj} {vs} (h : o.data = .fields vs) : ¬ Solid o := fun s => by
  rcases s with ⟨_, _, e⟩ | ⟨_, e⟩ <;> (rw [h] at e; cases e)
/-- own objects alone changed -/
def OwnKeep (own : List Addr) (h h' : Heap) : Prop := ∀ b o, b ∉ own → h.get? b = some o → h'.get? b = some o
theorem ownKeep_trans {own : List Addr} {h h' : Heap} {X : Addr → Prop} (k : OwnKeep own h h') (ob : ∀ b ∈ own, ∃ o vs, h.get? b = some o ∧ o.data = .fields vs) : Trans X h X h' := fun a o so nx g =>
  ⟨nx, k a o (fun m => by obtain ⟨o', vs, g', d⟩ := ob a m; rw [g] at g'; cases g'; exact fields_notSolid d so) g⟩

section
variable {mg mb : Str → Option Value} {K : Frag} {h₀ : Heap} {prog : Program} {w : World} {n : Nat} {env : Env} {ρ : Str → Option V} {μ : Mu} {B : Str → Prop} {A : Around} {s₀ s : Shared} {μ₀ : Mu}

theorem FS.own_ {own : List Addr} {h' : Heap} {tk : Nat} (F : FS B h₀ s₀ μ₀ env ρ μ s) (k : OwnKeep own s.heap h') (ob : ∀ b ∈ own, ∃ o vs, s.heap.get? b = some o ∧ o.data = .fields vs) (fr : ∀ b ∈ own, s₀.heap.get? b = none) :
    FS B h₀ s₀ μ₀ env ρ μ { s with heap := h', toks := tk } := by
  have T : Trans (dom μ) s.heap (dom μ) h' := ownKeep_trans k ob
  have nf : ∀ b o, (∀ vs, o.data ≠ .fields vs) → s.heap.get? b = some o → h'.get? b = some o := fun b o nf g => k b o (fun m => by obtain ⟨o', vs, g', d⟩ := ob b m; rw [g] at g'; cases g'; exact nf _ d) g
  refine ⟨F.frm.trans T (fun m nn => ?_) fun _ c o _ i => ?_, ⟨?_, fun b o nd e => ?_, F.res.mu.trans T fun a vs k g => nf a _ (fun _ e => by cases e) g, F.res.grow, F.res.fresh⟩, F.ext0, F.new0, F.freshL, F.freshC⟩
  · obtain ⟨o, es, ep, g, d, r⟩ := nn
    exact ⟨o, es, ep, nf _ _ (fun vs e => by rw [d] at e; cases e) g, d, r⟩
  · obtain ⟨x, g, d⟩ := i
    exact ⟨x, nf _ _ (fun vs e => by rw [d] at e; cases e) g, d⟩
  · obtain ⟨_, _, rfl⟩ := F.res.same; exact ⟨_, _, rfl⟩
  · exact k b o (fun m => by have := fr b m; rw [e] at this; cases this) (F.res.keep b o nd e)

/-- what a target binds -/
def Asg (B : Str → Prop) (env : Env) (ρ : Str → Option V) (t : Expr) (x : V) (ρ' : Str → Option V) : Prop :=
  (∃ a p, t = .Name a p ∧ B a ∧ stoKind env a = true ∧ ρ' = upd ρ a x) ∨
  (∃ a b p q k tp u v, t = .Tuple [.Name a p, .Name b q] k tp ∧ B a ∧ B b ∧ stoKind env a = true ∧ stoKind env b = true ∧ x = .tup [u, v] ∧ ρ' = upd (upd ρ a u) b v)
theorem Asg.name {a : Str} {p : Pos} {x : V} (hB : B a) (hk : stoKind env a = true) : Asg B env ρ (.Name a p) x (upd ρ a x) := .inl ⟨a, p, rfl, hB, hk, rfl⟩
theorem Asg.pair {a b : Str} {p q : Pos} {k : Nat} {tp : Pos} {u v : V} (hB : B a) (hB' : B b) (hk : stoKind env a = true) (hk' : stoKind env b = true) : Asg B env ρ (.Tuple [.Name a p, .Name b q] k tp) (.tup [u, v]) (upd (upd ρ a u) b v) :=
  .inr ⟨a, b, p, q, k, tp, u, v, rfl, hB, hB', hk, hk', rfl, rfl⟩

theorem FS.asg {t : Expr} {x : V} {ρ' : Str → Option V} {r : Value} {Q : Unit → Shared → Prop} {E : Value → Shared → Prop} (hh : A.handled = none) (F : FS B h₀ s₀ μ₀ env ρ μ s) (ha : Asg B env ρ t x ρ') (q : Rep (dom μ) s.heap x r)
    (h : ∀ s', FS B h₀ s₀ μ₀ env ρ' μ s' → KeepN s.heap s'.heap → Q () s') : wpAny (model prog w) A (assign t env r) Q E s := by
  rcases ha with ⟨a, p, rfl, hB, hk, rfl⟩ | ⟨a, b, p, p', k, tp, u, v, rfl, hB, hB', hk, hk', rfl, rfl⟩
  · exact PySem.wpAny_assign_Name (F.sto hB hk q h)
  · obtain ⟨t, vs, k, rfl, nx, g, q⟩ := q
    obtain ⟨ra, rs, e1, qa, q⟩ := q
    obtain ⟨rb, rs', e2, qb, q⟩ := q
    obtain rfl := q.nil_inv
    have hz : vs.size = 2 := by have : vs.toList.length = 2 := by rw [e1, e2]; rfl
                                simpa using this
    refine wpAny_assign_Tuple hh ⟨_, g, rfl, k, rfl⟩ (by rw [hz]; rfl) rfl fun h' he' => ?_
    have kp : Ext s.heap h' := fun b o e => he' b o (Nat.ne_of_lt (Heap.lt_size e)) e
    have F₁ := F.ev (.of_ext (tk := s.toks) F.res.mu kp)
    rw [e1, e2]
    show wpAny _ _ (do holding [rb] (assign (.Name a p) env ra); holding [] (assign (.Name b p') env rb); pure ()) _ _ _
    refine wpAny_bind (wpAny_holding (PySem.wpAny_assign_Name (F₁.sto hB hk (Rep.mono (.of_ext kp) _ _ qa) fun s₃ F₃ T₃ => ?_)))
    refine wpAny_bind (wpAny_holding (PySem.wpAny_assign_Name (F₃.sto hB' hk' (Rep.mono T₃.trans_ _ _ (Rep.mono (.of_ext kp) _ _ qb)) fun s₄ F₄ T₄ => ?_)))
    exact wpAny_pure (h s₄ F₄ (((KeepN.of_ext kp).trans T₃).trans T₄))

/-- the evaluation of a loop's source -/
def ItEv (h₀ : Heap) (prog : Program) (w : World) (n : Nat) (env : Env) (ρ : Str → Option V) (μ : Mu) (t : Expr) (e : Expr) (Φ : List V → Mu → Prop) : Prop :=
  ∀ (A : Around) (s : Shared) (E : Value → Shared → Prop) (Q : Value → Shared → Prop), Room n A → Ext h₀ s.heap → Frm env ρ (dom μ) s.heap → MuOk h₀ μ s.heap →
    (∀ it s' items μ' own, Φ items μ' → Res h₀ μ s μ' s' → (∀ X, Trans (dom μ') s'.heap X s'.heap → ∃ St, Itr prog w A t X items it own St ∧ St 0 s'.heap) → (∀ b ∈ own, s.heap.get? b = none) → Q it s') →
    wpAny (model prog w) A (eval e env) (fun x s₁ => wpAny (model prog w) A (pyIter x) Q E s₁) E s
end

end Mine
end

section
open PySem PySem.Calls PyProof.Rows PySem.W
namespace Mine

section
variable {mg mb : Str → Option Value} {K : Frag} {h₀ : Heap} {prog : Program} {w : World} {n : Nat} {env : Env} {ρ : Str → Option V} {μ : Mu} {B : Str → Prop} {A : Around} {s₀ s : Shared} {μ₀ : Mu}

theorem itr_list (hh : A.handled = none) {t : Expr} (ht : isName t = true) {X : Addr → Prop} {items : List V} {I a : Addr} {vs : Array Value} {k : Nat} (hne : a ≠ I) :
    Itr prog w A t X items (.ref I) [I] (fun i h => h.IsListIter I a i ∧ ¬ X a ∧ h.get? a = some (lstObj vs k) ∧ Reps X h items vs.toList) where
  frame := fun i h h' st kp T => ⟨by obtain ⟨o, g, r⟩ := st.1; exact ⟨o, kp I (by simp) o g, r⟩, st.2.1, (T a _ (.inl ⟨_, _, rfl⟩) st.2.1 st.2.2.1).2, Reps.mono T _ _ st.2.2.2⟩
  objs := fun i h st b hb => by
    obtain rfl : b = I := by simpa using hb
    obtain ⟨o, g, _, d⟩ := st.1
    exact ⟨o, _, g, d⟩
  item := fun i s Q E x hx _ st hQ => by
    refine wp_nextLet_name ht ?_
    obtain ⟨r, er, qr⟩ := st.2.2.2.get hx
    refine wpAny_pyNext_list_item st.1 ⟨_, st.2.2.1, rfl, k, rfl⟩ (x := r) (by simpa using er) fun h' hit' hs' => ?_
    have ok : OwnKeep [I] s.heap h' := fun b o hb g => hs'.extBut b o (fun e => hb (by simp [e])) g
    have T : Trans X s.heap X h' := ownKeep_trans ok fun b hb => by
      obtain rfl : b = I := by simpa using hb
      obtain ⟨o, g, _, d⟩ := st.1
      exact ⟨o, _, g, d⟩
    exact hQ r h' s.toks (Rep.mono T _ _ qr) ⟨hit', st.2.1, (T a _ (.inl ⟨_, _, rfl⟩) st.2.1 st.2.2.1).2, Reps.mono T _ _ st.2.2.2⟩ ok
  self := fun i s Q E st hQ => wpAny_pyIter_listiter st.1 hQ
  done := fun s Q E st hQ => by
    refine wp_nextLet_name ht ?_
    have hz : vs.size = items.length := by have := st.2.2.2.length; simpa using this
    refine wpAny_pyNext_list_end hh st.1 ⟨_, st.2.2.1, rfl, k, rfl⟩ (by simp [hz]) fun h' he' => ?_
    exact hQ h' s.toks fun b o hb g => he' b o (fun e => hb (by simp [e])) g

theorem It_list {t e : Expr} (ht : isName t = true) {Φ : List V → Mu → Prop} (h : Ev h₀ prog w n env ρ μ e fun v μ' => ∃ l, v = .lst l ∧ Φ l μ') : ItEv h₀ prog w n env ρ μ t e Φ := by
  intro A s E Q rm ex F M hQ
  refine h A s E _ rm ex F M fun r s₁ v μ₁ p₁ R₁ q₁ => ?_
  obtain ⟨l, rfl, p⟩ := p₁
  obtain ⟨a, vs, k, rfl, nx, g, q⟩ := q₁
  refine wpAny_pyIter_list ⟨_, g, rfl, k, rfl⟩ ?_
  have kp := Ext.push s₁.heap { cls := .type "list_iterator", data := .fields #[.ref a, .int 0 0] }
  refine hQ _ _ l μ₁ [s₁.heap.objs.size] p (R₁.trans (.of_ext R₁.mu kp)) (fun X T => ⟨_, itr_list rm.handled ht (Nat.ne_of_lt (Heap.lt_size g)), ⟨⟨_, Heap.get?_push_size _ rfl, rfl, rfl⟩, (T a _ (.inl ⟨_, _, rfl⟩) nx (kp _ _ g)).1, kp _ _ g, Reps.mono T _ _ (Reps.mono (.of_ext kp) _ _ q)⟩⟩) fun b hb => ?_
  obtain rfl : b = s₁.heap.objs.size := by simpa using hb
  cases e : s.heap.get? s₁.heap.objs.size with
  | none => rfl
  | some o =>
    by_cases d : dom μ s₁.heap.objs.size
    · obtain ⟨l', e'⟩ := R₁.grow _ d
      obtain ⟨_, _, g', _⟩ := R₁.mu.at_ _ _ e'
      rw [get?_size] at g'; cases g'
    · have := R₁.keep _ o d e
      rw [get?_size] at this; cases this

theorem fresh_back {s s₁ : Shared} {μ' : Mu} (R : Res h₀ μ s μ' s₁) {b : Addr} (h : s₁.heap.get? b = none) : s.heap.get? b = none := by
  cases e : s.heap.get? b with
  | none => rfl
  | some o =>
    by_cases d : dom μ b
    · obtain ⟨l', e'⟩ := R.grow _ d
      obtain ⟨_, _, g', _⟩ := R.mu.at_ _ _ e'
      rw [h] at g'; cases g'
    · have := R.keep _ o d e
      rw [h] at this; cases this

def rangeV (a : Int) (m : Nat) : List V := (List.range m).map fun i : Nat => .int (a + (i : Int))

theorem rangeV_length {a : Int} {m : Nat} : (rangeV a m).length = m := by simp [rangeV]
theorem rangeV_get {a : Int} {m i : Nat} {x : V} (h : (rangeV a m)[i]? = some x) : i < m ∧ x = .int (a + i) := by
  have hi : i < m := by have := (List.getElem?_eq_some_iff.mp h).1; rwa [rangeV_length] at this
  refine ⟨hi, ?_⟩
  unfold rangeV at h
  simp [hi] at h
  exact h.symm

theorem itr_range (hh : A.handled = none) {t : Expr} (ht : isName t = true) {X : Addr → Prop} {a : Int} {m : Nat} {I : Addr} :
    Itr prog w A t X (rangeV a m) (.ref I) [I] (fun i h => IsRangeIter h I (a + i) ((m : Int) - i) 1) where
  frame := fun i h h' st kp T => kp I (by simp) _ st
  objs := fun i h st b hb => by
    obtain rfl : b = I := by simpa using hb
    exact ⟨_, _, st, rfl⟩
  item := fun i s Q E x hx _ st hQ => by
    refine wp_nextLet_name ht ?_
    obtain ⟨hi, rfl⟩ := rangeV_get hx
    refine wpAny_pyNext_range_item st (by omega) fun h' hit' hs' => ?_
    exact hQ _ h' _ ⟨_, rfl⟩ (by have e1 : a + (i : Int) + 1 = a + ((i + 1 : Nat) : Int) := by omega
                                 have e2 : (m : Int) - i - 1 = m - ((i + 1 : Nat) : Int) := by omega
                                 rw [← e1, ← e2]; exact hit') fun b o hb g => hs'.extBut b o (fun e => hb (by simp [e])) g
  self := fun i s Q E st hQ => by
    exact wpAny_pyIter_rangeiter st hQ
  done := fun s Q E st hQ => by
    refine wp_nextLet_name ht ?_
    rw [rangeV_length] at st
    refine wpAny_pyNext_range_end hh st (by omega) fun h' he' => ?_
    exact hQ h' s.toks fun b o hb g => he' b o (fun e => hb (by simp [e])) g

theorem range_size (a b : Int) : Builtin.Range.rangeSize a b 1 = ((b - a).toNat : Int) := by
  rw [rangeSize_one]; split <;> omega

theorem It_range1 (G : Gd mg mb K h₀) {t : Expr} (ht : isName t = true) {x : Str} {p : Pos} {e : Expr} {pos : Pos} {Φ : List V → Mu → Prop}
    (hk : env.kindOf x = some .globalImplicit) (hm : mg x = none) (hv : bootBuiltins x = some (.type "range"))
    (h : Ev h₀ prog w n env ρ μ e fun v μ' => ∃ m : Nat, v = .int m ∧ m ≤ 2 ^ 24 ∧ Φ (rangeV 0 m) μ')
    (hx : x ≠ "__name__" := by decide) (hdb : (x == ("__debug__" : Str)) = false := by decide)
    (he : eval (.Call (.Name x p) [e] [] pos) env = (do callWith pos (← eval (.Name x p) env) [] (backTo pos (starEach [e] env)) (backToKw pos (keywordEach [] env))) := by rfl)
    (he' : starEach [e] env = (false, eval e env) :: starEach [] env := by rfl) :
    ItEv h₀ prog w n env ρ μ t (.Call (.Name x p) [e] [] pos) Φ := by
  intro A s E Q rm ex F M hQ
  refine Call_ ?_ he
  refine Name_function_global F.kind hk (loadGlobal_builtin (by rw [F.gl]; exact G.g.keeps ex) hm (by rw [F.bl]; exact G.b.keeps ex) ((G.blt x hx).trans hv) ?_) hdb
  have hE : Evs h₀ prog w n env ρ μ pos [e] (fun vs μ' => ∃ m : Nat, vs = [.int m] ∧ m ≤ 2 ^ 24 ∧ Φ (rangeV 0 m) μ') := Evs_cons (h.mono fun v μ' p => Evs_nil (by obtain ⟨m, rfl, p⟩ := p; exact ⟨m, rfl, p⟩)) he'
  refine PyProof.Rows.callWith_type1 (hE A s E _ rm ex F M fun rs s₁ vs μ₁ p₁ R₁ q₁ => ?_) he' rfl
  obtain ⟨m, rfl, hm, p⟩ := p₁
  obtain ⟨r, rs', rfl, ⟨u, rfl⟩, q⟩ := q₁
  obtain rfl := q.nil_inv
  refine call_range_1 ?_
  have kp := Ext.push s₁.heap { cls := .type "range", data := .fields #[.int 0 s₁.toks, .int (m : Int) u, .int 1 (s₁.toks + 1)] }
  refine wpAny_pyIter_range (IsRange.new ..) (small_one (by omega) (by omega) (by omega) (by omega)) ?_
  rw [range_size]
  have kp' := kp.trans (Ext.push _ { cls := .type "range_iterator", data := .fields #[rawInt 0, rawInt (((m : Int) - 0).toNat : Int), rawInt 1] })
  have e1 : (((m : Int) - 0).toNat : Int) = m := by omega
  refine hQ _ _ (rangeV 0 m) μ₁ [_] p (R₁.trans (.of_ext (tk := s₁.toks + 1 + 1) R₁.mu kp')) (fun X T => ⟨_, itr_range rm.handled ht, ?_⟩) fun b hb => ?_
  · show Heap.get? _ _ = _
    rw [Heap.get?_push_size _ rfl, e1]
    simp
  · rw [List.mem_singleton.mp hb]
    exact fresh_back (R₁.trans (.of_ext (tk := s₁.toks + 1 + 1) R₁.mu kp)) (get?_size _)

theorem It_range2 (G : Gd mg mb K h₀) {t : Expr} (ht : isName t = true) {x : Str} {p : Pos} {e e2 : Expr} {pos : Pos} {Φ : List V → Mu → Prop}
    (hk : env.kindOf x = some .globalImplicit) (hm : mg x = none) (hv : bootBuiltins x = some (.type "range"))
    (h : Ev h₀ prog w n env ρ μ e fun v μ₁ => Ev h₀ prog w n env ρ μ₁ e2 fun v2 μ' => ∃ a b : Int, v = .int a ∧ v2 = .int b ∧ 0 ≤ a ∧ a ≤ 2 ^ 24 ∧ 0 ≤ b ∧ b ≤ 2 ^ 24 ∧ Φ (rangeV a (b - a).toNat) μ')
    (hx : x ≠ "__name__" := by decide) (hdb : (x == ("__debug__" : Str)) = false := by decide)
    (he : eval (.Call (.Name x p) [e, e2] [] pos) env = (do callWith pos (← eval (.Name x p) env) [] (backTo pos (starEach [e, e2] env)) (backToKw pos (keywordEach [] env))) := by rfl)
    (he' : starEach [e, e2] env = (false, eval e env) :: starEach [e2] env := by rfl) (he2 : starEach [e2] env = (false, eval e2 env) :: starEach [] env := by rfl)
    (hp : ((backTo pos (starEach [e2] env)).any fun x => x.fst) = false := by rfl) :
    ItEv h₀ prog w n env ρ μ t (.Call (.Name x p) [e, e2] [] pos) Φ := by
  intro A s E Q rm ex F M hQ
  refine Call_ ?_ he
  refine Name_function_global F.kind hk (loadGlobal_builtin (by rw [F.gl]; exact G.g.keeps ex) hm (by rw [F.bl]; exact G.b.keeps ex) ((G.blt x hx).trans hv) ?_) hdb
  have hE : Evs h₀ prog w n env ρ μ pos [e, e2] (fun vs μ' => ∃ a b : Int, vs = [.int a, .int b] ∧ 0 ≤ a ∧ a ≤ 2 ^ 24 ∧ 0 ≤ b ∧ b ≤ 2 ^ 24 ∧ Φ (rangeV a (b - a).toNat) μ') :=
    Evs_cons (h.mono fun v μ' p => Evs_cons (p.mono fun v2 μ'' p => Evs_nil (by obtain ⟨a, b, rfl, rfl, p⟩ := p; exact ⟨a, b, rfl, p⟩)) he2) he'
  refine PyProof.Rows.callWith_type1 (hE A s E _ rm ex F M fun rs s₁ vs μ₁ p₁ R₁ q₁ => ?_) he' hp
  obtain ⟨a, b, rfl, ha, ha', hb, hb', p⟩ := p₁
  obtain ⟨r, rs', rfl, ⟨u, rfl⟩, q⟩ := q₁
  obtain ⟨r, rs', rfl, ⟨u', rfl⟩, q⟩ := q
  obtain rfl := q.nil_inv
  refine call_range_2 ?_
  have kp := Ext.push s₁.heap { cls := .type "range", data := .fields #[.int a u, .int b u', .int 1 s₁.toks] }
  refine wpAny_pyIter_range (IsRange.new ..) (small_one (by omega) (by omega) (by omega) (by omega)) ?_
  rw [range_size]
  have kp' := kp.trans (Ext.push _ { cls := .type "range_iterator", data := .fields #[rawInt a, rawInt ((b - a).toNat : Int), rawInt 1] })
  refine hQ _ _ (rangeV a (b - a).toNat) μ₁ [_] p (R₁.trans (.of_ext (tk := s₁.toks + 1) R₁.mu kp')) (fun X T => ⟨_, itr_range rm.handled ht, ?_⟩) fun b hb => ?_
  · show Heap.get? _ _ = _
    rw [Heap.get?_push_size _ rfl]
    simp
  · rw [List.mem_singleton.mp hb]
    exact fresh_back (R₁.trans (.of_ext (tk := s₁.toks + 1) R₁.mu kp)) (get?_size _)

def enumV (l : List V) : List V := l.mapIdx fun i x => .tup [.int (i : Int), x]
theorem enumV_length {l : List V} : (enumV l).length = l.length := by simp [enumV]
theorem enumV_get {l : List V} {i : Nat} {y : V} (h : (enumV l)[i]? = some y) : ∃ x, l[i]? = some x ∧ y = .tup [.int (i : Int), x] := by
  unfold enumV at h
  rw [List.getElem?_mapIdx] at h
  cases e : l[i]? with
  | none => rw [e] at h; cases h
  | some x => rw [e] at h; exact ⟨x, rfl, (by simpa using h.symm)⟩

theorem itr_enum (hh : A.handled = none) {elts : List Expr} {k1 : Nat} {tp : Pos} {X : Addr → Prop} {items : List V} {e I a : Addr} {vs : Array Value} {k : Nat} (hei : e ≠ I) :
    Itr prog w A (.Tuple elts k1 tp) X (enumV items) (.ref e) [e, I] (fun i h => (∃ old, IsEnum h e I (i : Int) old) ∧ h.IsListIter I a i ∧ ¬ X a ∧ h.get? a = some (lstObj vs k) ∧ Reps X h items vs.toList) where
  frame := fun i h h' st kp T => ⟨let ⟨old, g⟩ := st.1; ⟨old, kp e (by simp) _ g⟩, by obtain ⟨o, g, r⟩ := st.2.1; exact ⟨o, kp I (by simp) o g, r⟩, st.2.2.1, (T a _ (.inl ⟨_, _, rfl⟩) st.2.2.1 st.2.2.2.1).2, Reps.mono T _ _ st.2.2.2.2⟩
  objs := fun i h st b hb => by
    rcases List.mem_cons.mp hb with rfl | hb
    · obtain ⟨old, g⟩ := st.1; exact ⟨_, _, g, rfl⟩
    · obtain rfl : b = I := by simpa using hb
      obtain ⟨o, g, _, d⟩ := st.2.1
      exact ⟨o, _, g, d⟩
  item := fun i s Q E y hy hX st hQ => by
    obtain ⟨x, hx, rfl⟩ := enumV_get hy
    obtain ⟨⟨old, he⟩, hit, nx, g, q⟩ := st
    obtain ⟨r, er, qr⟩ := q.get hx
    have nT := get?_size s.heap
    unfold NextLet
    refine (wpAny_pyNext_enum_item he hit ⟨_, g, rfl, k, rfl⟩ (x := r) (by simpa using er) hei fun h' he' hit' gT hsz kp => ?_)
    refine wpAny_letOwnedTupleGo_enum he' fun h'' he'' hs'' => ?_
    have ne : e ≠ s.heap.objs.size := Nat.ne_of_lt (Heap.lt_size he)
    have ok : OwnKeep [e, I] s.heap h'' := fun b o hb gb => by
      simp at hb
      exact hs''.extBut b o hb.1 (kp b o hb.1 hb.2 gb)
    have T : Trans X s.heap X h'' := ownKeep_trans ok fun b hb => by
      rcases List.mem_cons.mp hb with rfl | hb
      · exact ⟨_, _, he, rfl⟩
      · obtain rfl : b = I := by simpa using hb
        obtain ⟨o, g, _, d⟩ := hit
        exact ⟨o, _, g, d⟩
    refine hQ _ h'' _ ⟨_, _, _, rfl, fun d => ?_, hs''.extBut _ _ ne.symm gT, (show Reps X h'' [.int (i : Int), x] [.int (i : Int) s.toks, r] from Reps.cons ⟨_, rfl⟩ (Reps.cons (Rep.mono T _ _ qr) Reps.nil))⟩ ⟨⟨r, ?_⟩, ?_, nx, (T a _ (.inl ⟨_, _, rfl⟩) nx g).2, Reps.mono T _ _ q⟩ ok
    · obtain ⟨o, go⟩ := hX _ d
      rw [nT] at go; cases go
    · have e2 : ((i + 1 : Nat) : Int) = (i : Int) + 1 := by omega
      rw [e2]; exact he''
    · obtain ⟨o, g, r⟩ := hit'
      exact ⟨o, hs''.extBut I o hei.symm g, r⟩
  self := fun i s Q E st hQ => by
    obtain ⟨⟨old, he⟩, _⟩ := st
    exact wpAny_pyIter_enum he hQ
  done := fun s Q E st hQ => by
    obtain ⟨⟨old, he⟩, hit, nx, g, q⟩ := st
    rw [enumV_length] at he hit
    have hz : vs.size = items.length := by have := q.length; simpa using this
    unfold NextLet
    refine wpAny_pyNext_enum_end hh he hit ⟨_, g, rfl, k, rfl⟩ (by simp [hz]) fun h' he' => ?_
    exact hQ h' s.toks fun b o hb gb => he' b o (fun e => hb (by simp [e])) gb

theorem It_enum (G : Gd mg mb K h₀) {elts : List Expr} {k1 : Nat} {tp : Pos} {x : Str} {p : Pos} {e : Expr} {pos : Pos} {Φ : List V → Mu → Prop}
    (hk : env.kindOf x = some .globalImplicit) (hm : mg x = none) (hv : bootBuiltins x = some (.type "enumerate"))
    (h : Ev h₀ prog w n env ρ μ e fun v μ' => ∃ l, v = .lst l ∧ Φ (enumV l) μ')
    (hx : x ≠ "__name__" := by decide) (hdb : (x == ("__debug__" : Str)) = false := by decide)
    (he : eval (.Call (.Name x p) [e] [] pos) env = (do callWith pos (← eval (.Name x p) env) [] (backTo pos (starEach [e] env)) (backToKw pos (keywordEach [] env))) := by rfl)
    (he' : starEach [e] env = (false, eval e env) :: starEach [] env := by rfl) :
    ItEv h₀ prog w n env ρ μ (.Tuple elts k1 tp) (.Call (.Name x p) [e] [] pos) Φ := by
  intro A s E Q rm ex F M hQ
  refine Call_ ?_ he
  refine Name_function_global F.kind hk (loadGlobal_builtin (by rw [F.gl]; exact G.g.keeps ex) hm (by rw [F.bl]; exact G.b.keeps ex) ((G.blt x hx).trans hv) ?_) hdb
  have hE : Evs h₀ prog w n env ρ μ pos [e] (fun vs μ' => ∃ l, vs = [.lst l] ∧ Φ (enumV l) μ') := Evs_cons (h.mono fun v μ' p => Evs_nil (by obtain ⟨m, rfl, p⟩ := p; exact ⟨m, rfl, p⟩)) he'
  refine PyProof.Rows.callWith_type1 (hE A s E _ rm ex F M fun rs s₁ vs μ₁ p₁ R₁ q₁ => ?_) he' rfl
  obtain ⟨l, rfl, p⟩ := p₁
  obtain ⟨r, rs', rfl, ⟨a, vs, k, rfl, nx, g, q⟩, q'⟩ := q₁
  obtain rfl := q'.nil_inv
  refine call_enumerate_1 g fun h' he hit hsz kp => wpAny_pyIter_enum he ?_
  have R₂ : Res h₀ μ₁ s₁ μ₁ { s₁ with heap := h' } := .of_ext (tk := s₁.toks) R₁.mu kp
  refine hQ _ _ (enumV l) μ₁ _ p (R₁.trans R₂) (fun X T => ⟨_, itr_enum rm.handled (Nat.succ_ne_self _), ⟨⟨_, he⟩, hit, (T a _ (.inl ⟨_, _, rfl⟩) nx (kp _ _ g)).1, kp _ _ g, Reps.mono T _ _ (Reps.mono (.of_ext kp) _ _ q)⟩⟩) fun b hb => fresh_back R₁ ?_
  rcases List.mem_cons.mp hb with rfl | hb
  · exact Heap.get?_none_of_le (Nat.le_succ _)
  · obtain rfl : b = s₁.heap.objs.size := by simpa using hb
    exact get?_size _
end

end Mine
end

section
open PySem PySem.Calls PyProof.Rows PySem.W
namespace Mine

section
variable {mg mb : Str → Option Value} {K : Frag} {h₀ : Heap} {prog : Program} {w : World} {n : Nat} {env : Env} {ρ : Str → Option V} {μ : Mu} {B : Str → Prop} {A : Around} {s₀ s : Shared} {μ₀ : Mu}

theorem codeAny_forL {R : Result → Shared → Prop} {target : Expr} {it : Value} {body : List Stmt} (I : Nat → Shared → Prop)
    (turn : ∀ n s (E : Value → Shared → Prop), I n s → NextLet (model prog w) A target it (fun r s₁ => match r with
      | none => R (.ok .next) s₁
      | some v => wpAny (model prog w) A (assign target env v) (fun _ s₂ => wpAny (model prog w) A (execs body env) (fun f s₃ => match f with
          | .next | .cont => ∃ m, m < n ∧ I m s₃
          | .brk => R (.ok .next) s₃
          | .ret v => R (.ok (.ret v)) s₃) E s₂) E s₁) E s)
    (n : Nat) (h : I n s) : codeAny (model prog w) A (.forLoop target it body [] env) R s := by
  refine codeAny_loop' rfl I (fun n s hI => ?_) n h
  show wpAny _ _ ((forTurn target it body [] env).onRaise (fun x => do noteFrame x env; theTreesLotGoes x)) _ _ s
  refine wpAny_noted ?_
  simp only [forTurn]
  refine wpAny_bind (wpAny_standAt (wpAny_bind (wpAny_onRaise (wpAny_mono (turn n s _ hI) (fun r s₁ h₁ => ?_) fun _ _ h' => wpAny_standAt h'))))
  cases r with
  | none => exact wpAny_pure (.inr ⟨rfl, codeAny_block (wpAny_execs_nil h₁)⟩)
  | some v =>
    refine wpAny_bind (wpAny_mono h₁ (fun _ s₁' h₁ => ?_) fun _ _ h' => h')
    refine wpAny_bind (wpAny_mono h₁ (fun _ s₂ h₂ => wpAny_bind (wpAny_mono h₂ (fun f s₃ h₃ => ?_) fun _ _ h' => h')) fun _ _ h' => h')
    cases f with
    | next => exact wpAny_pure (.inl ⟨rfl, h₃⟩)
    | cont => exact wpAny_pure (.inl ⟨rfl, h₃⟩)
    | brk => exact wpAny_pure h₃
    | ret v => exact wpAny_pure h₃

theorem own_back {h₀ : Heap} {env : Env} {ρ : Str → Option V} (F : FS B h₀ s₀ μ₀ env ρ μ s) {b : Addr} (h : s.heap.get? b = none) : s₀.heap.get? b = none := fresh_back F.res h

theorem Ex_for {t iter : Expr} {body : List Stmt} {pos : Pos} {Φ : Fl → (Str → Option V) → Mu → Prop}
    (h : ItEv h₀ prog w n env ρ μ t iter fun items μ₁ => ∃ I : Nat → (Str → Option V) → Mu → Prop, I 0 ρ μ₁ ∧ (∀ k ρ' μ', I k ρ' μ' → dom μ' = dom μ₁) ∧
      (∀ k x ρ' μ', items[k]? = some x → I k ρ' μ' → ∃ ρ'', Asg AllB env ρ' t x ρ'' ∧ Exs h₀ prog w n env ρ'' μ' body fun fl ρ₂ μ₂ => match fl with
        | .next => I (k + 1) ρ₂ μ₂
        | .cont => I (k + 1) ρ₂ μ₂
        | .brk => Φ .next ρ₂ μ₂
        | .ret v => Φ (.ret v) ρ₂ μ₂) ∧
      (∀ ρ' μ', I items.length ρ' μ' → Φ .next ρ' μ'))
    (hs : ∀ x, foldedSetIterable iter env x = pure x := by intro _; rfl) : Ex h₀ prog w n env ρ μ (.For t iter body [] pos) Φ := by
  intro A s₀ μ₀ s E Q rm F hQ
  refine wpAny_For (h A s E _ rm F.ext F.frm F.res.mu fun it s₁ items μ₁ own p R₁ hI₀ hfr => ?_) hs
  obtain ⟨St, hIt, hSt⟩ := hI₀ (dom μ₁) fun a o _ nx g => ⟨nx, g⟩
  obtain ⟨I, i0, hdom, step, fin⟩ := p
  have F₁ := F.ev R₁
  have fr0 : ∀ b ∈ own, s₀.heap.get? b = none := fun b hb => own_back F (hfr b hb)
  have nd_of : ∀ {o : Obj} {vs}, o.data = .fields vs → NDC o := fun d => ⟨fun _ _ e => (by rw [d] at e; cases e), fun _ e => (by rw [d] at e; cases e)⟩
  refine codeAny_forL (fun m s' => ∃ k ρ' μ', m = items.length + 1 - k ∧ k ≤ items.length ∧ I k ρ' μ' ∧ FS AllB h₀ s₀ μ₀ env ρ' μ' s' ∧ St k s'.heap ∧ Mid μ s μ' s') ?_ (items.length + 1) ⟨0, ρ, μ₁, rfl, Nat.zero_le _, i0, F₁, hSt, .of_res R₁⟩
  rintro m s' E' ⟨k, ρ', μ', rfl, hk, hI, F', hSt', mid⟩
  have hd := hdom k ρ' μ' hI
  have ob := hIt.objs k _ hSt'
  have mid_own : ∀ (h' : Heap) (tk : Nat), OwnKeep own s'.heap h' → Mid μ s μ' { s' with heap := h', toks := tk } := fun h' tk ok =>
    ⟨fun b o nd ndm g => ok b o (fun hb => by have := hfr b hb; rw [g] at this; cases this) (mid.keep b o nd ndm g), mid.fresh⟩
  by_cases hlt : k < items.length
  · obtain ⟨ρ'', ha, hb⟩ := step k items[k] ρ' μ' (List.getElem?_eq_getElem hlt) hI
    refine hIt.item k s' _ _ items[k] (List.getElem?_eq_getElem hlt) (fun b d => ?_) hSt' fun r h' tk q st ok => ?_
    · rw [← hd] at d; obtain ⟨l, e⟩ := d
      obtain ⟨vs, k, g, _⟩ := F'.res.mu.at_ b l e
      exact ⟨_, g⟩
    have F₂ := F'.own_ (tk := tk) ok ob fr0
    rw [← hd] at q
    refine F₂.asg rm.handled ha q fun s₃ F₃ kn => ?_
    have st₃ : St (k + 1) s₃.heap := hIt.frame _ _ _ st (fun b hb o g => by
      obtain ⟨o', vs, g', d⟩ := hIt.objs _ _ st b hb
      rw [g] at g'; cases g'
      exact kn b _ (nd_of d) g) kn.trans_
    refine hb A s₀ μ₀ s₃ _ _ rm F₃ fun fl f s₄ ρ₄ μ₄ p F₄ mid₄ qf => ?_
    have mids : Mid μ s μ₄ s₄ := ((mid_own h' tk ok).trans (.of_keepN kn)).trans mid₄
    have next : I (k + 1) ρ₄ μ₄ → ∃ m, m < items.length + 1 - k ∧ ∃ k ρ' μ', m = items.length + 1 - k ∧ k ≤ items.length ∧ I k ρ' μ' ∧ FS AllB h₀ s₀ μ₀ env ρ' μ' s₄ ∧ St k s₄.heap ∧ Mid μ s μ' s₄ := fun p => by
      refine ⟨items.length + 1 - (k + 1), by omega, k + 1, ρ₄, μ₄, rfl, hlt, p, F₄, ?_, mids⟩
      have hd₄ := hdom _ _ _ p
      have T := mid₄.trans_
      rw [hd, hd₄] at T
      refine hIt.frame _ _ _ st₃ (fun b hb o g => ?_) T
      obtain ⟨o', vs, g', d⟩ := hIt.objs _ _ st₃ b hb
      rw [g] at g'; cases g'
      refine mid₄.keep b _ (nd_of d) (fun ⟨l, e⟩ => ?_) g
      obtain ⟨vs', k', g2, _⟩ := F₃.res.mu.at_ b l e
      rw [g] at g2; cases g2; cases d
    cases fl with
    | next => obtain rfl : f = .next := qf; exact next p
    | cont => obtain rfl : f = .cont := qf; exact next p
    | brk => obtain rfl : f = .brk := qf; exact hQ .next .next s₄ ρ₄ μ₄ p F₄ mids rfl
    | ret v => obtain ⟨r, rfl, qr⟩ := qf; exact hQ (.ret v) _ s₄ ρ₄ μ₄ p F₄ mids ⟨r, rfl, qr⟩
  · obtain rfl : k = items.length := by omega
    exact hIt.done s' _ _ hSt' fun h' tk ok => hQ .next .next _ ρ' μ' (fin ρ' μ' hI) (F'.own_ ok ob fr0) (mid_own h' tk ok) rfl

theorem Ex_while {t : Expr} {body : List Stmt} {pos : Pos} {Φ : Fl → (Str → Option V) → Mu → Prop} (I : Nat → (Str → Option V) → Mu → Prop) (m : Nat) (i0 : I m ρ μ)
    (step : ∀ m ρ' μ', I m ρ' μ' → Ts h₀ prog w n env ρ' μ' t fun c μ₁ =>
      (c = true → Exs h₀ prog w n env ρ' μ₁ body fun fl ρ₂ μ₂ => match fl with
        | .next => ∃ m', m' < m ∧ I m' ρ₂ μ₂
        | .cont => ∃ m', m' < m ∧ I m' ρ₂ μ₂
        | .brk => Φ .next ρ₂ μ₂
        | .ret v => Φ (.ret v) ρ₂ μ₂) ∧ (c = false → Φ .next ρ' μ₁)) : Ex h₀ prog w n env ρ μ (.While t body [] pos) Φ := by
  intro A s₀ μ₀ s E Q rm F hQ
  refine PySem.wpAny_While (codeAny_whileLoop (fun m s' => ∃ ρ' μ', I m ρ' μ' ∧ FS AllB h₀ s₀ μ₀ env ρ' μ' s' ∧ Mid μ s μ' s') ?_ m ⟨ρ, μ, i0, F, .refl⟩)
  rintro m s' ⟨ρ', μ', hI, F', mid⟩
  refine step m ρ' μ' hI A s' _ _ rm F'.ext F'.frm F'.res.mu fun c s₁ μ₁ p R₁ => ?_
  have mid₁ := mid.trans (.of_res R₁)
  cases c with
  | false => exact wpAny_execs_nil (hQ .next .next s₁ ρ' μ₁ (p.2 rfl) (F'.ev R₁) mid₁ rfl)
  | true =>
    simp only [if_true]
    refine p.1 rfl A s₀ μ₀ s₁ _ _ rm (F'.ev R₁) fun fl f s₂ ρ₂ μ₂ p₂ F₂ mid₂ qf => ?_
    have mids := mid₁.trans mid₂
    cases fl with
    | next => obtain rfl : f = .next := qf; obtain ⟨m', hm, hi⟩ := p₂; exact ⟨m', hm, ρ₂, μ₂, hi, F₂, mids⟩
    | cont => obtain rfl : f = .cont := qf; obtain ⟨m', hm, hi⟩ := p₂; exact ⟨m', hm, ρ₂, μ₂, hi, F₂, mids⟩
    | brk => obtain rfl : f = .brk := qf; exact hQ .next .next s₂ ρ₂ μ₂ p₂ F₂ mids rfl
    | ret v => obtain ⟨r, rfl, qr⟩ := qf; exact hQ (.ret v) _ s₂ ρ₂ μ₂ p₂ F₂ mids ⟨r, rfl, qr⟩
end

end Mine
end

section
open PySem PySem.Calls PyProof.Rows PySem.W
namespace Mine

-- closures of a comprehension
def closOf (env : Env) : List (Str × NameKind) → List (Str × Addr) → List (Str × Addr)
  | [], acc => acc
  | (y, k) :: r, acc => if k == .free then closOf env r ((y, (env.cells.lookup y).getD 0) :: acc) else closOf env r acc

theorem closOf_lookup (env : Env) : ∀ (names : List (Str × NameKind)) (acc : List (Str × Addr)) (y : Str) (c : Addr), (closOf env names acc).lookup y = some c → acc.lookup y = some c ∨ ((y, .free) ∈ names ∧ (env.cells.lookup y).getD 0 = c)
  | [], _, _, _, h => .inl h
  | (z, k) :: r, acc, y, c, h => by
    unfold closOf at h
    split at h
    · rename_i hk
      obtain rfl : k = .free := by simpa using hk
      rcases closOf_lookup env r _ y c h with h | h
      · rw [List.lookup_cons] at h
        cases hb : y == z with
        | true =>
          rw [hb] at h
          obtain rfl : y = z := by simpa using hb
          exact .inr ⟨List.mem_cons_self, by simpa using h⟩
        | false => rw [hb] at h; exact .inl h
      · exact .inr ⟨List.mem_cons_of_mem _ h.1, h.2⟩
    · rcases closOf_lookup env r _ y c h with h | h
      · exact .inl h
      · exact .inr ⟨List.mem_cons_of_mem _ h.1, h.2⟩
theorem closOf_some (env : Env) : ∀ (names : List (Str × NameKind)) (acc : List (Str × Addr)) (y : Str), ((y, .free) ∈ names ∨ (acc.lookup y).isSome = true) → ((closOf env names acc).lookup y).isSome = true
  | [], _, _, h => h.elim (fun e => nomatch e) id
  | (z, k) :: r, acc, y, h => by
    unfold closOf
    split
    · rename_i hk
      refine closOf_some env r _ y ?_
      rcases h with h | h
      · rcases List.mem_cons.mp h with e | h
        · obtain ⟨rfl, rfl⟩ := Prod.mk.inj e; exact .inr (by simp [List.lookup_cons])
        · exact .inl h
      · refine .inr ?_
        rw [List.lookup_cons]; split <;> simp_all
    · rename_i hk
      refine closOf_some env r _ y ?_
      rcases h with h | h
      · rcases List.mem_cons.mp h with e | h
        · obtain ⟨rfl, rfl⟩ := Prod.mk.inj e; simp at hk
        · exact .inl h
      · exact .inr h

theorem closureFor_eq {scope : Scope} {env : Env} (h : ∀ y, (y, .free) ∈ scope.names → ∃ c, env.cells.lookup y = some c) : closureFor scope env = pure (closOf env scope.names []) := by
  unfold closureFor
  have gen : ∀ (names : List (Str × NameKind)) (acc : List (Str × Addr)), (∀ y, (y, NameKind.free) ∈ names → ∃ c, env.cells.lookup y = some c) →
      (forIn names acc (fun (x : Str × NameKind) (r : List (Str × Addr)) => (match x with
        | (name, kind) => if (kind == .free) = true then (do let a ← cellOf env name; pure (ForInStep.yield ((name, a) :: r))) else pure (ForInStep.yield r) : Sem (ForInStep (List (Str × Addr)))))) = (pure (closOf env names acc) : Sem _) := by
    intro names
    induction names with
    | nil => intro acc _; rfl
    | cons p r ih =>
      intro acc hh
      obtain ⟨y, k⟩ := p
      rw [List.forIn_cons]
      unfold closOf
      by_cases hk : (k == NameKind.free) = true
      · simp only [hk, if_true]
        obtain rfl : k = .free := by simpa using hk
        obtain ⟨c, hc⟩ := hh y List.mem_cons_self
        unfold cellOf
        rw [hc]
        simp only [pure_bind, Option.getD_some]
        exact ih _ fun y hy => hh y (List.mem_cons_of_mem _ hy)
      · simp only [hk, Bool.false_eq_true, if_false, pure_bind]
        exact ih _ fun y hy => hh y (List.mem_cons_of_mem _ hy)
  exact congrArg (fun m : Sem (List (Str × Addr)) => m >>= fun cs => pure cs) (gen scope.names [] h)

theorem relabel_lookup (scope : Scope) (env : Env) (y : Str) :
    (relabel scope env).names.lookup y = (scope.names.lookup y).map fun k => if (k == .free && env.scope.kind == .function && env.kindOf y == some .cell) then .cell else k := by
  unfold relabel
  generalize scope.names = names
  induction names with
  | nil => rfl
  | cons p r ih =>
    obtain ⟨z, k⟩ := p
    simp only [List.map_cons]
    by_cases hb : (y == z) = true
    · obtain rfl : y = z := by simpa using hb
      by_cases hc : (k == NameKind.free && env.scope.kind == ScopeKind.function && env.kindOf y == some NameKind.cell) = true
      · rw [if_pos hc]; simp only [List.lookup_cons, beq_self_eq_true, Option.map_some]; rw [if_pos hc]
      · rw [if_neg hc]; simp only [List.lookup_cons, beq_self_eq_true, Option.map_some]; rw [if_neg hc]
    · have hb' : (y == z) = false := by simpa using hb
      by_cases hc : (k == NameKind.free && env.scope.kind == ScopeKind.function && env.kindOf z == some NameKind.cell) = true
      · simp only [hc, if_true, List.lookup_cons, hb']; exact ih
      · simp only [hc, Bool.false_eq_true, if_false, List.lookup_cons, hb']; exact ih

/-- what a comprehension sees of the frame around it -/
def subR (scope : Scope) (ρ : Str → Option V) : Str → Option V := fun y => match scope.names.lookup y with
  | some .free => ρ y
  | _ => none
theorem subR_some {scope : Scope} {ρ : Str → Option V} {y : Str} {v : V} (h : subR scope ρ y = some v) : scope.names.lookup y = some .free ∧ ρ y = some v := by
  unfold subR at h
  split at h
  · exact ⟨by assumption, h⟩
  · cases h

theorem lookup_mem {α : Type} [BEq α] : ∀ {l : List (Str × α)} {y : Str} {k : α}, l.lookup y = some k → (y, k) ∈ l
  | (z, k') :: r, y, k, h => by
    rw [List.lookup_cons] at h
    cases hb : y == z with
    | true => rw [hb] at h; cases h; rw [beq_iff_eq.mp hb]; exact List.mem_cons_self
    | false => rw [hb] at h; exact List.mem_cons_of_mem _ (lookup_mem h)

theorem cells_none : ∀ (names : List (Str × NameKind)) (n : Nat) (acc : List (Str × Addr)), names.filter (fun p => p.2 == .cell) = [] → cellsFrom n names acc = acc ∧ ∀ h, pushCells h names = h
  | [], _, _, _ => ⟨rfl, fun _ => rfl⟩
  | (y, k) :: r, n, acc, h => by
    rw [List.filter_cons] at h
    split at h
    · cases h
    · rename_i hk
      have ih := cells_none r n acc h
      unfold cellsFrom pushCells
      simp only [hk, Bool.false_eq_true, if_false]
      exact ih
theorem cells_one {x : Str} : ∀ (names : List (Str × NameKind)) (n : Nat) (acc : List (Str × Addr)), names.filter (fun p => p.2 == .cell) = [(x, .cell)] → cellsFrom n names acc = (x, n) :: acc ∧ ∀ h, pushCells h names = h.push { cls := .type "cell", data := .cell none }
  | (y, k) :: r, n, acc, h => by
    rw [List.filter_cons] at h
    split at h
    · rename_i hk
      obtain ⟨h1, h2⟩ := List.cons.inj h
      obtain ⟨rfl, rfl⟩ := Prod.mk.inj h1
      have ih := cells_none r (n + 1) ((y, n) :: acc) h2
      unfold cellsFrom pushCells
      simp only [beq_self_eq_true, if_true]
      exact ⟨ih.1, fun h => ih.2 _⟩
    · rename_i hk
      have ih := cells_one r n acc h
      unfold cellsFrom pushCells
      simp only [hk, Bool.false_eq_true, if_false]
      exact ih

theorem newEnv_comp {M : Model} {A : Around} {E : Value → Shared → Prop} {s : Shared} {scope : Scope} {globals : Addr} {cl : List (Str × Addr)} {qual : Str} {outer : Env} {Q : Env → Shared → Prop}
    (hQ : Q (newEnv scope s.heap.objs.size globals (cellsFrom (s.heap.objs.size + 1) scope.names cl) qual none .none (some outer) 0) { s with heap := pushCells (s.heap.push { cls := .type "dict", data := .dict #[] }) scope.names }) :
    wpAny M A (newFunctionEnv scope globals cl [] qual none .none (some outer)) Q E s := by
  simp only [newFunctionEnv, Option.isSome_some, if_true]
  refine wpAny_bind (wpAny_alloc ?_)
  refine wpAny_bind (wpAny_layCells _ (fun name kind cells => by cases hkc : kind == NameKind.cell <;> simp [hkc]) _ _ _ _ ?_)
  rw [show ({ s with heap := s.heap.push { cls := .type "dict", data := .dict #[] } } : Shared).heap.objs.size = s.heap.objs.size + 1 from Heap.size_push ..]
  simp only [List.forIn_nil, pure_bind]
  exact wpAny_pure hQ

section
variable {mg mb : Str → Option Value} {K : Frag} {h₀ : Heap} {prog : Program} {w : World} {n : Nat} {env : Env} {ρ : Str → Option V} {μ : Mu} {B : Str → Prop} {A : Around} {s₀ s : Shared} {μ₀ : Mu}

theorem FS.weak {ρ' : Str → Option V} (F : FS B h₀ s₀ μ₀ env ρ μ s) (h : ∀ y v, ρ' y = some v → ρ y = some v) : FS B h₀ s₀ μ₀ env ρ' μ s :=
  ⟨⟨F.frm.kind, F.frm.gl, F.frm.bl, let ⟨ml, nl, q⟩ := F.frm.ns; ⟨ml, nl, fun x v k e => q x v k (h _ _ e)⟩, fun x v k e => F.frm.cell x v k (h _ _ e), F.frm.own, F.frm.apart⟩, F.res, F.ext0, F.new0, F.freshL, F.freshC⟩

/-- the frame of a comprehension, newly made -/
theorem comp_start {scope : Scope} {own : List Str} (hkind : scope.kind = .function) (hown : scope.names.filter (fun p => p.2 == .cell) = own.map fun x => (x, .cell)) (hone : own.length ≤ 1)
    (hnd : ∀ y ∈ own, scope.names.lookup y = some .cell) (hfree : ∀ y, (y, .free) ∈ scope.names → env.kindOf y = some .cell)
    (ex : Ext h₀ s.heap) (M₀ : MuOk h₀ μ s.heap) {s₁ : Shared} {μ₁ : Mu} (F : Frm env ρ (dom μ₁) s₁.heap) (R₁ : Res h₀ μ s μ₁ s₁) {H : Heap} {D : Addr} (kp : Ext s₁.heap H) (hD : s₁.heap.get? D = none) (gD : H.get? D = some (lstObj #[] 0)) :
    FS (fun y => scope.names.lookup y ≠ some .free) h₀ s μ (compEnvC scope (cellsFrom (H.objs.size + 1) scope.names (closOf env scope.names [])) H.objs.size env) (subR scope ρ) (muSet μ₁ D [])
      { s₁ with heap := pushCells (H.push { cls := .type "dict", data := .dict #[] }) scope.names } := by
  have kp1 := kp.trans (Ext.push H { cls := .type "dict", data := .dict #[] })
  have kp2 : Ext (H.push { cls := .type "dict", data := .dict #[] }) (pushCells (H.push { cls := .type "dict", data := .dict #[] }) scope.names) := fun b o e => pushCells_keeps _ _ b o e
  have kp3 := kp1.trans kp2
  have clos : ∀ y c, (closOf env scope.names []).lookup y = some c → (y, .free) ∈ scope.names ∧ env.cells.lookup y = some c := fun y c e => by
    rcases closOf_lookup env scope.names [] y c e with e | ⟨e1, e2⟩
    · cases e
    · obtain ⟨c', o, e3, _⟩ := F.own y (hfree y e1)
      rw [e3] at e2; exact ⟨e1, by rw [e3]; exact congrArg some e2⟩
  have closI : ∀ y, (y, .free) ∈ scope.names → ∃ c, (closOf env scope.names []).lookup y = some c := fun y hy => Option.isSome_iff_exists.mp (closOf_some env scope.names [] y (.inl hy))
  -- own cells
  have cellsD : (∀ y, y ∉ own → (cellsFrom (H.objs.size + 1) scope.names (closOf env scope.names [])).lookup y = (closOf env scope.names []).lookup y) ∧
      (∀ y, y ∈ own → (cellsFrom (H.objs.size + 1) scope.names (closOf env scope.names [])).lookup y = some (H.objs.size + 1) ∧ Heap.IsCell (pushCells (H.push { cls := .type "dict", data := .dict #[] }) scope.names) (H.objs.size + 1) none ∧ ∀ z ∈ own, z = y) := by
    match own, hone, hown with
    | [], _, ho =>
      have := cells_none scope.names (H.objs.size + 1) (closOf env scope.names []) ho
      rw [this.1]
      exact ⟨fun _ _ => rfl, fun _ h => nomatch h⟩
    | [x], _, ho =>
      have := cells_one scope.names (H.objs.size + 1) (closOf env scope.names []) ho
      rw [this.1, this.2]
      refine ⟨fun y hy => ?_, fun y hy => ?_⟩
      · have : (y == x) = false := by simpa using hy
        rw [List.lookup_cons, this]
      · obtain rfl : y = x := by simpa using hy
        refine ⟨by simp, ⟨{ cls := .type "cell", data := .cell none }, ?_, rfl⟩, fun z hz => by simpa using hz⟩
        have := Heap.get?_push_size (H.push { cls := .type "dict", data := .dict #[] }) (o := { cls := .type "cell", data := .cell none }) rfl
        rwa [Heap.size_push] at this
  have hnf : ∀ y, (y, .free) ∈ scope.names → scope.names.lookup y = some .free → y ∉ own := fun y _ e h => by rw [hnd y h] at e; cases e
  have fr : ∀ b, H.objs.size ≤ b → s.heap.get? b = none := fun b hb => fresh_back R₁ (by
    cases e : s₁.heap.get? b with
    | none => rfl
    | some o => exact absurd (Heap.lt_size (kp b o e)) (Nat.not_lt.mpr hb))
  have T : Trans (dom μ₁) s₁.heap (dom (muSet μ₁ D [])) (pushCells (H.push { cls := .type "dict", data := .dict #[] }) scope.names) := trans_add kp3 hD
  have kinds : ∀ y, (compEnvC scope (cellsFrom (H.objs.size + 1) scope.names (closOf env scope.names [])) H.objs.size env).kindOf y = (scope.names.lookup y).map fun k => if (k == .free && env.scope.kind == .function && env.kindOf y == some .cell) then .cell else k := fun y => relabel_lookup scope env y
  have hcell : ∀ y, (compEnvC scope (cellsFrom (H.objs.size + 1) scope.names (closOf env scope.names [])) H.objs.size env).kindOf y = some .cell → scope.names.lookup y = some .cell ∨ scope.names.lookup y = some .free := fun y e => by
    rw [kinds] at e
    cases h : scope.names.lookup y with
    | none => rw [h] at e; cases e
    | some k =>
      rw [h] at e
      simp only [Option.map_some, Option.some.injEq] at e
      split at e
      · rename_i hc; simp at hc; exact .inr (by rw [hc.1.1])
      · exact .inl (by rw [e])
  have memOwn : ∀ y, scope.names.lookup y = some .cell → y ∈ own := fun y e => by
    have h1 : (y, NameKind.cell) ∈ scope.names.filter (fun p => p.2 == .cell) := List.mem_filter.mpr ⟨lookup_mem e, by simp⟩
    rw [hown] at h1
    obtain ⟨z, hz, e⟩ := List.mem_map.mp h1
    cases e; exact hz
  refine ⟨⟨hkind, F.gl, F.bl, ⟨_, (Heap.Ns.new H (.type "dict")).keeps kp2, fun x v kx e => ?_⟩, fun x v kx e => ?_, fun x kx => ?_, fun x y c hx hy => ?_⟩, ?_, ex, M₀.new, fr _ (Nat.le_refl _), fun x c hB hk hc => ?_⟩
  · obtain ⟨e1, _⟩ := subR_some e
    rw [kinds, e1] at kx
    have := hfree x (lookup_mem e1)
    simp [this, F.kind] at kx
  · obtain ⟨e1, e2⟩ := subR_some e
    obtain ⟨c, r, hc, i, q⟩ := F.cell x v (.inl (hfree x (lookup_mem e1))) e2
    obtain ⟨c', hc'⟩ := closI x (lookup_mem e1)
    have := (clos x c' hc').2
    rw [hc] at this; cases this
    exact ⟨c, r, by rw [← hc']; exact cellsD.1 x (hnf x (lookup_mem e1) e1), i.keeps kp3, Rep.mono T _ _ q⟩
  · by_cases ho : x ∈ own
    · obtain ⟨h1, h2, _⟩ := cellsD.2 x ho
      exact ⟨_, _, h1, h2⟩
    · rcases hcell x kx with e | e
      · exact absurd (memOwn x e) ho
      · obtain ⟨c', hc'⟩ := closI x (lookup_mem e)
        obtain ⟨c, o, hc, i⟩ := F.own x (hfree x (lookup_mem e))
        have := (clos x c' hc').2
        rw [hc] at this; cases this
        exact ⟨_, o, (cellsD.1 x ho).trans hc', i.keeps kp3⟩
  · have lt : ∀ z c, (closOf env scope.names []).lookup z = some c → c < H.objs.size + 1 := fun z c hz => by
      have h1 := clos z c hz
      obtain ⟨c', o, hc, i⟩ := F.own z (hfree z h1.1)
      rw [h1.2] at hc; cases hc
      obtain ⟨o', g, _⟩ := i
      exact Nat.lt_succ_of_lt (Heap.lt_size (kp _ _ g))
    by_cases hxo : x ∈ own
    · obtain ⟨h1, _, h3⟩ := cellsD.2 x hxo
      by_cases hyo : y ∈ own
      · exact (h3 y hyo).symm
      · have hx' : (cellsFrom (H.objs.size + 1) scope.names (closOf env scope.names [])).lookup x = some c := hx
        have hy' : (cellsFrom (H.objs.size + 1) scope.names (closOf env scope.names [])).lookup y = some c := hy
        rw [h1] at hx'; cases hx'
        rw [cellsD.1 y hyo] at hy'
        exact absurd (lt y _ hy') (Nat.lt_irrefl _)
    · have hx' : (cellsFrom (H.objs.size + 1) scope.names (closOf env scope.names [])).lookup x = some c := hx
      have hy' : (cellsFrom (H.objs.size + 1) scope.names (closOf env scope.names [])).lookup y = some c := hy
      rw [cellsD.1 x hxo] at hx'
      by_cases hyo : y ∈ own
      · obtain ⟨h1, _, h3⟩ := cellsD.2 y hyo
        rw [h1] at hy'; cases hy'
        exact absurd (lt x _ hx') (Nat.lt_irrefl _)
      · rw [cellsD.1 y hyo] at hy'
        exact F.apart x y c (clos x c hx').2 (clos y c hy').2
  · have R2 : Res h₀ μ₁ s₁ (muSet μ₁ D []) { s₁ with heap := pushCells (H.push { cls := .type "dict", data := .dict #[] }) scope.names } :=
      res_new (tk := s₁.toks) (vs := #[]) (k := 0) R₁.mu (R₁.ext M₀ ex) kp3 hD (kp2 _ _ (Ext.push _ _ _ _ gD)) rfl
    exact R₁.trans R2
  · have hc' : (cellsFrom (H.objs.size + 1) scope.names (closOf env scope.names [])).lookup x = some c := hc
    by_cases ho : x ∈ own
    · obtain ⟨h1, _, _⟩ := cellsD.2 x ho
      rw [h1] at hc'; cases hc'
      exact fr _ (Nat.le_succ _)
    · rcases hcell x hk with e | e
      · exact absurd (memOwn x e) ho
      · exact absurd e hB
end

end Mine
end

section
open PySem PySem.Calls PyProof.Rows PySem.W
namespace Mine

section
variable {mg mb : Str → Option Value} {K : Frag} {h₀ : Heap} {prog : Program} {w : World} {n : Nat} {env : Env} {ρ : Str → Option V} {μ : Mu} {B : Str → Prop} {A : Around} {s₀ s : Shared} {μ₀ : Mu}

theorem dom_setSame {a : Addr} {l l' : List V} (ha : μ a = some l) : dom (muSet μ a l') = dom μ := by
  funext b
  refine propext (dom_set.trans ⟨fun h => h.elim (fun e => e ▸ ⟨l, ha⟩) id, .inr⟩)
theorem muSet_set {a : Addr} {l l' : List V} : muSet (muSet μ a l) a l' = muSet μ a l' := by
  funext b; unfold muSet; split <;> rfl
theorem muSet_self {a : Addr} {l : List V} : muSet μ a l a = some l := by simp [muSet]

theorem Res.mutate {a : Addr} {l l' : List V} {vs : Array Value} {k : Nat} {h' : Heap} {tk : Nat} (M : MuOk h₀ μ s.heap) (ha : μ a = some l) (hs : Heap.SameBut a s.heap h')
    (g : h'.get? a = some (lstObj vs k)) (q : Reps (dom μ) s.heap l' vs.toList) : Res h₀ μ s (muSet μ a l') { s with heap := h', toks := tk } := by
  have T : Trans (dom μ) s.heap (dom μ) h' := fun b o _ nx g => ⟨nx, (hs.2 b (fun e => nx (e ▸ ⟨l, ha⟩))).trans g⟩
  have hd := dom_setSame (l' := l') ha
  refine ⟨⟨_, _, rfl⟩, fun b o nd e => (hs.2 b (fun e => nd (e ▸ ⟨l, ha⟩))).trans e, ⟨fun b l₂ e => ?_, fun b d => M.new b (hd ▸ d)⟩, fun b d => hd ▸ d, fun b d nd => absurd (hd ▸ d) nd⟩
  rw [hd]
  unfold muSet at e
  by_cases hb : b = a
  · subst hb; simp at e; subst e; exact ⟨vs, k, g, Reps.mono T _ _ q⟩
  · simp [hb] at e
    obtain ⟨vs', k', g', q'⟩ := M.at_ b l₂ e
    exact ⟨vs', k', (hs.2 b hb).trans g', Reps.mono T _ _ q'⟩

theorem codeAny_compL {R : Result → Shared → Prop} {elt target iter : Expr} {ifs : List Expr} {scope : Scope} {pos : Pos} {it acc : Value} (I : Nat → Shared → Prop)
    (turn : ∀ n s (E : Value → Shared → Prop), I n s → NextLet (model prog w) A target it (fun r s₁ => match r with
      | none => R (.ok .next) s₁
      | some v => wpAny (model prog w) A (assign target env v) (fun _ s₂ =>
          wpAny (model prog w) A (forIn ifs true fun c r => if r = true then do let ok ← PySem.isTrue c env (eval c env); pure (ForInStep.yield ok) else pure (ForInStep.yield r)) (fun ok s₃ =>
            if ok = true then wpAny (model prog w) A (eval elt env) (fun x s₄ =>
              wpAny (model prog w) A (call (.builtin "list.append") [acc, x]) (fun _ s₅ => ∃ m, m < n ∧ I m s₅) E s₄) E s₃
            else ∃ m, m < n ∧ I m s₃) E s₂) E s₁) E s)
    (n : Nat) (h : I n s) : codeAny (model prog w) A (.compLoop (.ListComp elt [⟨target, iter, ifs, 0⟩] scope pos) 0 it acc env) R s := by
  refine codeAny_loop rfl I (fun n s hI => ?_) n h
  show wpAny _ A ((compTurn (.ListComp elt [⟨target, iter, ifs, 0⟩] scope pos) 0 it acc env).onRaise (fun x => do noteFrame x env; theTreesLotGoes x)) _ _ s
  refine wpAny_noted ?_
  rw [compTurn_list]
  refine wpAny_bind (wpAny_standAt (wpAny_bind (wpAny_mono (turn n s _ hI) (fun r s₁ h₁ => ?_) fun _ _ h' => h')))
  cases r with
  | none => exact wpAny_pure h₁
  | some v =>
    refine wpAny_bind (wpAny_mono h₁ (fun _ s₁' h₁ => ?_) fun _ _ h' => h')
    refine wpAny_bind (wpAny_mono h₁ (fun _ s₂ h₂ => wpAny_bind (wpAny_mono h₂ (fun ok s₃ h₃ => ?_) fun _ _ h' => h')) fun _ _ h' => h')
    cases ok with
    | false => exact wpAny_pure ⟨rfl, h₃⟩
    | true =>
      exact wpAny_bind (wpAny_bind (wpAny_mono h₃ (fun x s₄ h₄ => wpAny_bind (wpAny_mono h₄ (fun _ s₅ h₅ => wpAny_pure (wpAny_pure ⟨rfl, h₅⟩)) fun _ _ h' => h')) fun _ _ h' => h'))

/-- a comprehension's tests -/
def TsF (h₀ : Heap) (prog : Program) (w : World) (n : Nat) (env : Env) (ρ : Str → Option V) (μ : Mu) (ifs : List Expr) (Φ : Bool → Mu → Prop) : Prop :=
  ∀ (A : Around) (s : Shared) (E : Value → Shared → Prop) (Q : Bool → Shared → Prop), Room n A → Ext h₀ s.heap → Frm env ρ (dom μ) s.heap → MuOk h₀ μ s.heap →
    (∀ b s' μ', Φ b μ' → Res h₀ μ s μ' s' → Q b s') → wpAny (model prog w) A (forIn ifs true fun c r => if r = true then do let ok ← PySem.isTrue c env (eval c env); pure (ForInStep.yield ok) else pure (ForInStep.yield r)) Q E s
theorem TsF_nil {Φ : Bool → Mu → Prop} (h : Φ true μ) : TsF h₀ prog w n env ρ μ [] Φ := fun _ s _ _ _ _ _ M hQ => wpAny_tests_nil (hQ true s μ h (.refl M))
theorem TsF_one {c : Expr} {Φ : Bool → Mu → Prop} (h : Ts h₀ prog w n env ρ μ c Φ) : TsF h₀ prog w n env ρ μ [c] Φ := fun A s E Q rm ex F M hQ => wpAny_tests_one (h A s E Q rm ex F M hQ)

structure ScopeOk (scope : Scope) (own : List Str) (env : Env) : Prop where
  hkind : scope.kind = .function
  hown : scope.names.filter (fun p => p.2 == .cell) = own.map fun x => (x, .cell)
  hone : own.length ≤ 1
  hnd : ∀ y ∈ own, scope.names.lookup y = some .cell
  hfree : ∀ y, (y, .free) ∈ scope.names → env.kindOf y = some .cell
  hnames : ∀ x ∈ scope.names, x.2 = .local → scope.names.lookup x.1 = some .local

/-- the block's loop, whatever is done with the list -/
theorem comp_block {elt t iter : Expr} {ifs : List Expr} {scope : Scope} {pos : Pos} {own : List Str} (S : ScopeOk scope own env) {RR : Addr → Addr → Result → Shared → Prop}
    (hh : Room n A) (ex : Ext h₀ s.heap) (M₀ : MuOk h₀ μ s.heap) {s₁ : Shared} {μ₁ : Mu} (F : Frm env ρ (dom μ₁) s₁.heap) (R₁ : Res h₀ μ s μ₁ s₁) {it : Value} {ownI : List Addr} {items : List V}
    (hI₀ : ∀ X, Trans (dom μ₁) s₁.heap X s₁.heap → ∃ St, Itr prog w A t X items it ownI St ∧ St 0 s₁.heap) (hfr : ∀ b ∈ ownI, s.heap.get? b = none)
    (hlen : items.length ≤ 2 ^ 24) (I : Nat → List V → Mu → Prop) (i0 : I 0 [] μ₁) (hdom : ∀ k res μ', I k res μ' → res.length ≤ k ∧ dom μ' = dom μ₁)
    (step : ∀ C cells D k x res μ', items[k]? = some x → I k res μ' → μ' D = none → ∃ ρ'', Asg (fun y => scope.names.lookup y ≠ some .free) (compEnvC scope cells C env) (subR scope ρ) t x ρ'' ∧ (∀ y v, subR scope ρ y = some v → ρ'' y = some v) ∧
      TsF h₀ prog w n (compEnvC scope cells C env) ρ'' (muSet μ' D res) ifs fun b μ'' => ∃ μ₂, μ'' = muSet μ₂ D res ∧ μ₂ D = none ∧ (b = false → I (k + 1) res μ₂) ∧
        (b = true → Ev h₀ prog w n (compEnvC scope cells C env) ρ'' μ'' elt fun v μ₃ => ∃ μ₄, μ₃ = muSet μ₄ D res ∧ μ₄ D = none ∧ I (k + 1) (res ++ [v]) μ₄))
    (fin : ∀ D C s' res μ', I items.length res μ' → μ D = none → μ' D = none → s.heap.get? D = none → s.heap.get? C = none → s₁.heap.get? C = none → (∃ m, s'.heap.Ns C m) → Res h₀ μ s (muSet μ' D res) s' → RR D C (.ok .next) s') (E : Value → Shared → Prop) :
    wpAny (model prog w) A (newList []) (fun acc s₃ => wpAny (model prog w) A (newFunctionEnv scope env.globals (closOf env scope.names []) [] env.qual none .none (some env)) (fun cenv s₄ =>
      codeAny (model prog w) A (.compStart (.ListComp elt [⟨t, iter, ifs, 0⟩] scope pos) 0 it acc { cenv with scope := relabel scope env }) (fun r s' => ∃ D, acc = .ref D ∧ RR D cenv.locals r s') s₄) E s₃) E s₁ := by
  refine wpAny_newObj_type ?_ (by show ([] : List Value).toArray.size ≤ sizeLine; simp)
  refine newEnv_comp ?_
  have hD : s₁.heap.get? s₁.heap.objs.size = none := get?_size _
  have kp := Ext.push s₁.heap { cls := .type "list", data := .seq ([] : List Value).toArray }
  have gD : (s₁.heap.push { cls := .type "list", data := .seq ([] : List Value).toArray }).get? s₁.heap.objs.size = some (lstObj #[] 0) := Heap.get?_push_size _ rfl
  have F₄ := comp_start (own := own) S.hkind S.hown S.hone S.hnd S.hfree ex M₀ F R₁ kp hD gD
  dsimp only at F₄ ⊢
  generalize hH : s₁.heap.push { cls := .type "list", data := .seq ([] : List Value).toArray } = H at *
  generalize hDD : s₁.heap.objs.size = D at *
  generalize hCC : H.objs.size = C at *
  generalize hcl : cellsFrom (C + 1) scope.names (closOf env scope.names []) = cells at *
  generalize hP : pushCells (H.push { cls := .type "dict", data := .dict #[] }) scope.names = P at *
  have kP : Ext s₁.heap P := kp.trans ((Ext.push _ _).trans fun b o e => by rw [← hP]; exact pushCells_keeps _ _ b o e)
  have hC : s₁.heap.get? C = none := by
    cases e : s₁.heap.get? C with
    | none => rfl
    | some o => exact absurd (Heap.lt_size (kp _ _ e)) (by rw [hCC]; exact Nat.lt_irrefl _)
  have hDs : s.heap.get? D = none := fresh_back R₁ hD
  have hDn : ∀ μ' : Mu, dom μ' = dom μ₁ → μ' D = none := fun μ' e => by
    cases h : μ' D with
    | none => rfl
    | some l =>
      have : dom μ₁ D := by rw [← e]; exact ⟨l, h⟩
      obtain ⟨l', e'⟩ := this
      obtain ⟨_, _, g, _⟩ := R₁.mu.at_ _ _ e'
      rw [hD] at g; cases g
  have hμD : μ D = none := by
    cases h : μ D with
    | none => rfl
    | some l => obtain ⟨_, _, g, _⟩ := M₀.at_ _ _ h; rw [hDs] at g; cases g
  obtain ⟨St, hIt, hSt⟩ := hI₀ (dom (muSet μ₁ D [])) fun a o so nx g => ⟨fun d => (dom_set.mp d).elim (fun e => by rw [e, hD] at g; cases g) nx, g⟩
  have nd_of : ∀ {o : Obj} {vs}, o.data = .fields vs → NDC o := fun d => ⟨fun _ _ e => (by rw [d] at e; cases e), fun _ e => (by rw [d] at e; cases e)⟩
  have domS : ∀ (μ' : Mu) (l : List V), dom μ' = dom μ₁ → dom (muSet μ' D l) = dom (muSet μ₁ D []) := fun μ' l e => by
    funext b; refine propext ?_
    rw [dom_set, dom_set, e]
  have hSt₄ : St 0 P := hIt.frame _ _ _ hSt (fun b _ o g => kP b o g) (.of_ext kP)
  have stRes : ∀ {i : Nat} {s s' : Shared} {μ₂ μ₃ : Mu}, MuOk h₀ μ₂ s.heap → Res h₀ μ₂ s μ₃ s' → dom μ₂ = dom (muSet μ₁ D []) → dom μ₃ = dom (muSet μ₁ D []) → St i s.heap → St i s'.heap := fun {i s s' μ₂ μ₃} M R e2 e3 st => by
    have T := R.trans_
    rw [e2, e3] at T
    refine hIt.frame _ _ _ st (fun b hb o g => ?_) T
    obtain ⟨o', vs, g', d⟩ := hIt.objs _ _ st b hb
    rw [g] at g'; cases g'
    refine R.keep b _ (fun ⟨l, e⟩ => ?_) g
    obtain ⟨vs', k', g2, _⟩ := M.at_ b l e
    rw [g] at g2; cases g2; cases d
  show codeAny _ _ (.compStart _ 0 it (.ref D) (compEnvC scope cells C env)) _ _
  refine codeAny_mono (R := fun r s' => RR D C r s') ?_ fun r s' h => ⟨D, rfl, h⟩
  have loop : codeAny (model prog w) A (.compLoop (.ListComp elt [⟨t, iter, ifs, 0⟩] scope pos) 0 it (.ref D) (compEnvC scope cells C env)) (fun r s' => RR D C r s') { s₁ with heap := P } := by
    refine codeAny_compL (fun m s' => ∃ k res μ', m = items.length + 1 - k ∧ k ≤ items.length ∧ I k res μ' ∧ FS (fun y => scope.names.lookup y ≠ some .free) h₀ s μ (compEnvC scope cells C env) (subR scope ρ) (muSet μ' D res) s' ∧ St k s'.heap) ?_
      (items.length + 1) ⟨0, [], μ₁, rfl, Nat.zero_le _, i0, F₄, hSt₄⟩
    rintro m s' E' ⟨k, res, μ', rfl, hk, hI, F', hSt'⟩
    obtain ⟨hl, hd⟩ := hdom k res μ' hI
    have hd' := domS μ' res hd
    have ob := hIt.objs k _ hSt'
    by_cases hlt : k < items.length
    · obtain ⟨ρ'', ha, hle, ht⟩ := step C cells D k items[k] res μ' (List.getElem?_eq_getElem hlt) hI (hDn μ' hd)
      refine hIt.item k s' _ _ items[k] (List.getElem?_eq_getElem hlt) (fun b d => ?_) hSt' fun r h' tk q st ok => ?_
      · rw [← hd'] at d; obtain ⟨l, e⟩ := d
        obtain ⟨vs, k, g, _⟩ := F'.res.mu.at_ b l e
        exact ⟨_, g⟩
      have F₂ := F'.own_ (tk := tk) ok ob hfr
      rw [← hd'] at q
      refine F₂.asg hh.handled ha q fun s₃ F₃ kn => ?_
      have st₃ : St (k + 1) s₃.heap := hIt.frame _ _ _ st (fun b hb o g => by
        obtain ⟨o', vs, g', d⟩ := hIt.objs _ _ st b hb
        rw [g] at g'; cases g'
        exact kn b _ (nd_of d) g) kn.trans_
      refine ht A s₃ _ _ hh F₃.ext F₃.frm F₃.res.mu fun b s₄ μ'' p R₄ => ?_
      obtain ⟨μ₂, rfl, hn2, p0, p1⟩ := p
      have F₄' := F₃.ev R₄
      cases b with
      | false =>
        simp only [Bool.false_eq_true, if_false]
        have hI' := p0 rfl
        refine ⟨items.length + 1 - (k + 1), by omega, k + 1, res, μ₂, rfl, hlt, hI', F₄'.weak hle, stRes F₃.res.mu R₄ hd' (domS μ₂ res (hdom _ _ _ hI').2) st₃⟩
      | true =>
        simp only [if_true]
        refine p1 rfl A s₄ _ _ hh F₄'.ext F₄'.frm F₄'.res.mu fun r' s₅ v μ₃ p R₅ q₅ => ?_
        obtain ⟨μ₄, rfl, hn4, hI'⟩ := p
        have F₅ := F₄'.ev R₅
        obtain ⟨hl', hd4⟩ := hdom _ _ _ hI'
        have hd5 := domS μ₄ res hd4
        have st₅ := stRes F₃.res.mu (R₄.trans R₅) hd' hd5 st₃
        obtain ⟨vs, kk, g, qs⟩ := F₅.res.mu.at_ D res muSet_self
        have hz : vs.size = res.length := by have := qs.length; simpa using this
        refine wpAny_list_append_plain (hsz := by rw [hz, sizeLine_eq]; omega) ⟨kk, g⟩ fun h₆ ⟨k6, g6⟩ hs6 => ?_
        have R₆ : Res h₀ (muSet μ₄ D res) s₅ (muSet (muSet μ₄ D res) D (res ++ [v])) { s₅ with heap := h₆ } := Res.mutate (tk := s₅.toks) F₅.res.mu muSet_self hs6 g6 (by
          simpa using Reps.append qs (Reps.cons q₅ Reps.nil))
        rw [muSet_set] at R₆
        refine ⟨items.length + 1 - (k + 1), by omega, k + 1, res ++ [v], μ₄, rfl, hlt, hI', (F₅.ev R₆).weak hle, stRes F₅.res.mu R₆ hd5 (domS μ₄ _ hd4) st₅⟩
    · obtain rfl : k = items.length := by omega
      refine hIt.done s' _ _ hSt' fun h' tk ok => ?_
      have F₂ := F'.own_ (tk := tk) ok ob hfr
      obtain ⟨ml, nl, _⟩ := F₂.frm.ns
      exact fin D C _ res μ' hI hμD (hDn μ' hd) hDs (fresh_back R₁ hC) hC ⟨ml, nl⟩ F₂.res
  exact codeAny_compStart_list loop (hIt.self 0 _ _ _ hSt₄ loop)
end

end Mine
end

section
open PySem PySem.Calls PyProof.Rows PySem.W
namespace Mine

section
variable {mg mb : Str → Option Value} {K : Frag} {h₀ : Heap} {prog : Program} {w : World} {n : Nat} {env : Env} {ρ : Str → Option V} {μ : Mu} {B : Str → Prop} {A : Around} {s₀ s : Shared} {μ₀ : Mu}

theorem Res.dictChange {μ' : Mu} {s' : Shared} {C : Addr} {m} {h' : Heap} (R : Res h₀ μ s μ' s') (hC : s.heap.get? C = none) (nl : s'.heap.Ns C m) (hs : Heap.SameBut C s'.heap h') : Res h₀ μ s μ' { s' with heap := h' } := by
  have KN := keepN_dict nl hs
  refine ⟨?_, fun b o nd e => (hs.2 b (fun e' => by subst e'; rw [hC] at e; cases e)).trans (R.keep b o nd e), R.mu.trans KN.trans_ fun a vs k g => KN a _ (Solid.ndc (.inl ⟨_, _, rfl⟩)) g, R.grow, R.fresh⟩
  obtain ⟨_, _, rfl⟩ := R.same; exact ⟨_, _, rfl⟩

theorem ScopeOk.clos {scope : Scope} {own : List Str} {X : Addr → Prop} {h : Heap} (S : ScopeOk scope own env) (F : Frm env ρ X h) : closureFor scope env = pure (closOf env scope.names []) :=
  closureFor_eq fun y hy => let ⟨c, _, e, _⟩ := F.own y (S.hfree y hy); ⟨c, e⟩

/-- a comprehension, by an invariant over the items taken -/
theorem Ev_compM {elt t iter : Expr} {ifs : List Expr} {scope : Scope} {pos : Pos} {own : List Str} (S : ScopeOk scope own env) {Φ : V → Mu → Prop}
    (h : ItEv h₀ prog w n env ρ μ t iter fun items μ₁ => items.length ≤ 2 ^ 24 ∧ ∃ I : Nat → List V → Mu → Prop, I 0 [] μ₁ ∧ (∀ k res μ', I k res μ' → res.length ≤ k ∧ dom μ' = dom μ₁) ∧
      (∀ C cells D k x res μ', items[k]? = some x → I k res μ' → μ' D = none → ∃ ρ'', Asg (fun y => scope.names.lookup y ≠ some .free) (compEnvC scope cells C env) (subR scope ρ) t x ρ'' ∧ (∀ y v, subR scope ρ y = some v → ρ'' y = some v) ∧
        TsF h₀ prog w n (compEnvC scope cells C env) ρ'' (muSet μ' D res) ifs fun b μ'' => ∃ μ₂, μ'' = muSet μ₂ D res ∧ μ₂ D = none ∧ (b = false → I (k + 1) res μ₂) ∧
          (b = true → Ev h₀ prog w n (compEnvC scope cells C env) ρ'' μ'' elt fun v μ₃ => ∃ μ₄, μ₃ = muSet μ₄ D res ∧ μ₄ D = none ∧ I (k + 1) (res ++ [v]) μ₄)) ∧
      (∀ res μ' a, I items.length res μ' → μ a = none → μ' a = none → Φ (.mt a) (muSet μ' a res)))
    (hs : ∀ x, foldedSetIterable iter env x = pure x := by intro _; rfl) : Ev h₀ prog w n env ρ μ (.ListComp elt [⟨t, iter, ifs, 0⟩] scope pos) Φ := by
  intro A s E Q rm ex F M hQ
  rw [eval_ListComp]
  refine wpAny_comprehension_free (use := none) rfl hs (S.clos F) S.hkind S.hnames (h A s E _ rm ex F M fun it s₁ items μ₁ ownI p R₁ hI₀ hfr => ?_)
  obtain ⟨hlen, I, i0, hdom, step, fin⟩ := p
  refine wpAny_mono (comp_block S (RR := fun D C r s' => compPost (model prog w) A E none Q (.ref D) C r s') rm ex M (F.res M R₁) R₁ hI₀ hfr hlen I i0 hdom step (fun D C s' res μ' hI hD hD' hDs hCs hC1 ⟨m, nl⟩ R => ?_) E) (fun acc s₃ h₃ => wpAny_mono h₃ (fun cenv s₄ h₄ => codeAny_mono h₄ fun r s' ⟨D, e, hr⟩ => e ▸ hr) fun _ _ e => e) fun _ _ e => e
  exact ⟨m, nl, fun h' hs' => hQ _ _ (.mt D) _ (fin res μ' D hI hD hD') (R.dictChange hCs nl hs') rfl⟩

theorem Ev.freezeG {e : Expr} {Φ : V → Mu → Prop} (h : Ev h₀ prog w n env ρ μ e fun v μ' => ∃ a l μ₁, μ a = none ∧ μ₁ a = none ∧ v = .mt a ∧ μ' = muSet μ₁ a l ∧ Φ (.lst l) μ₁) : Ev h₀ prog w n env ρ μ e Φ := by
  intro A s E Q rm ex F M hQ
  refine h A s E Q rm ex F M fun r s' v μ' ⟨a, l, μ₁, hn, hn1, e1, e2, k⟩ R q' => ?_
  subst e1 e2
  obtain rfl : r = .ref a := q'
  have := res_freeze (l := l) hn R muSet_self
  rw [muDel_set hn1] at this
  exact hQ _ s' _ _ k this.1 this.2

/-- a comprehension whose elements change nothing: the list of its elements -/
theorem Ev_comp {elt t iter : Expr} {scope : Scope} {pos : Pos} {own : List Str} (S : ScopeOk scope own env) {Φ : V → Mu → Prop}
    (h : ItEv h₀ prog w n env ρ μ t iter fun items μ₁ => items.length ≤ 2 ^ 24 ∧ ∃ ys : List V, ys.length = items.length ∧
      (∀ C cells (k : Nat) x y, items[k]? = some x → ys[k]? = some y → ∃ ρ'', Asg (fun y => scope.names.lookup y ≠ some .free) (compEnvC scope cells C env) (subR scope ρ) t x ρ'' ∧ (∀ y v, subR scope ρ y = some v → ρ'' y = some v) ∧
        ∀ μD : Mu, (∀ a l, μ₁ a = some l → μD a = some l) → Ev h₀ prog w n (compEnvC scope cells C env) ρ'' μD elt fun v μ₃ => v = y ∧ μ₃ = μD) ∧ Φ (.lst ys) μ₁)
    (hs : ∀ x, foldedSetIterable iter env x = pure x := by intro _; rfl) : Ev h₀ prog w n env ρ μ (.ListComp elt [⟨t, iter, [], 0⟩] scope pos) Φ := by
  refine Ev.freezeG (Ev_compM S (fun A s E Q rm ex F M hQ => h A s E Q rm ex F M fun it s' items μ' ownI p R => hQ it s' items μ' ownI ?_ R) hs)
  obtain ⟨hlen, ys, hy, step, fin⟩ := p
  refine ⟨hlen, fun k res μ₂ => res = ys.take k ∧ μ₂ = μ' ∧ k ≤ ys.length, ⟨by simp, rfl, Nat.zero_le _⟩, ?_, ?_, ?_⟩
  · rintro k res μ₂ ⟨rfl, rfl, hk⟩
    exact ⟨by rw [List.length_take]; omega, rfl⟩
  · rintro C cells D k x res μ₂ hx ⟨rfl, rfl, hk⟩ hD
    have hlt : k < ys.length := by rw [hy]; exact (List.getElem?_eq_some_iff.mp hx).1
    obtain ⟨ρ'', ha, hle, hev⟩ := step C cells k x ys[k] hx (List.getElem?_eq_getElem hlt)
    refine ⟨ρ'', ha, hle, TsF_nil ⟨μ₂, rfl, hD, fun e => (nomatch e), fun _ => ?_⟩⟩
    refine (hev _ fun a l e => ?_).mono ?_
    · unfold muSet; split
      · rename_i e'; subst e'; rw [hD] at e; cases e
      · exact e
    · rintro v μ₃ ⟨rfl, rfl⟩
      exact ⟨μ₂, rfl, hD, by rw [List.take_add_one, List.getElem?_eq_getElem hlt]; rfl, rfl, hlt⟩
  · rintro res μ₂ a ⟨rfl, rfl, hk⟩ hn hn'
    exact ⟨a, _, μ₂, hn, hn', rfl, rfl, by rw [← hy, List.take_length]; exact fin⟩

/-- x = [..]: the list is stored ahead of the letting go -/
theorem Ex_assign_comp {x : Str} {p : Pos} {elt t iter : Expr} {ifs : List Expr} {scope : Scope} {cpos pos : Pos} {own : List Str} (S : ScopeOk scope own env) {Φ : Fl → (Str → Option V) → Mu → Prop} (hx : env.kindOf x = some .local)
    (hsw : swapsWith (.ListComp elt [⟨t, iter, ifs, 0⟩] scope cpos) (some (.Name x p)) pos.line env = pure true)
    (h : ItEv h₀ prog w n env ρ μ t iter fun items μ₁ => items.length ≤ 2 ^ 24 ∧ ∃ I : Nat → List V → Mu → Prop, I 0 [] μ₁ ∧ (∀ k res μ', I k res μ' → res.length ≤ k ∧ dom μ' = dom μ₁) ∧
      (∀ C cells D k x res μ', items[k]? = some x → I k res μ' → μ' D = none → ∃ ρ'', Asg (fun y => scope.names.lookup y ≠ some .free) (compEnvC scope cells C env) (subR scope ρ) t x ρ'' ∧ (∀ y v, subR scope ρ y = some v → ρ'' y = some v) ∧
        TsF h₀ prog w n (compEnvC scope cells C env) ρ'' (muSet μ' D res) ifs fun b μ'' => ∃ μ₂, μ'' = muSet μ₂ D res ∧ μ₂ D = none ∧ (b = false → I (k + 1) res μ₂) ∧
          (b = true → Ev h₀ prog w n (compEnvC scope cells C env) ρ'' μ'' elt fun v μ₃ => ∃ μ₄, μ₃ = muSet μ₄ D res ∧ μ₄ D = none ∧ I (k + 1) (res ++ [v]) μ₄)) ∧
      (∀ res μ', I items.length res μ' → Φ .next (upd ρ x (.lst res)) μ'))
    (hs : ∀ x, foldedSetIterable iter env x = pure x := by intro _; rfl) : Ex h₀ prog w n env ρ μ (.Assign [.Name x p] (.ListComp elt [⟨t, iter, ifs, 0⟩] scope cpos) pos) Φ := by
  intro A s₀ μ₀ s E Q rm F hQ
  rw [exec_Assign_Name_used _ _ _ _ hsw]
  refine wpAny_bind (wpAny_standAt (wpAny_bind ?_))
  show wpAny _ A (do let _ ← comprehension (.ListComp elt [⟨t, iter, ifs, 0⟩] scope cpos) scope env _ (newList []) false (eval iter env) (some (assign (.Name x p) env))) _ _ s
  refine wpAny_bind (wpAny_mono (wpAny_comprehension_free (use := some (assign (.Name x p) env)) (Q := fun _ s' => Q .next s') rfl hs (S.clos F.frm) S.hkind S.hnames (h A s E _ rm F.ext F.frm F.res.mu fun it s₁ items μ₁ ownI p R₁ hI₀ hfr => ?_)) (fun _ _ q => wpAny_pure (wpAny_pure q)) fun _ _ e => e)
  obtain ⟨hlen, I, i0, hdom, step, fin⟩ := p
  refine wpAny_mono (comp_block S (RR := fun D C r s' => compPost (model prog w) A E (some (assign (.Name x _) env)) (fun _ s' => Q .next s') (.ref D) C r s') rm F.ext F.res.mu (F.frm.res F.res.mu R₁) R₁ hI₀ hfr hlen I i0 hdom step (fun D C s' res μ' hI hD hD' hDs hCs hC1 ⟨m, nl⟩ R => ?_) E) (fun acc s₃ h₃ => wpAny_mono h₃ (fun cenv s₄ h₄ => codeAny_mono h₄ fun r s' ⟨D, e, hr⟩ => e ▸ hr) fun _ _ e => e) fun _ _ e => e
  have fz := res_freeze (l := res) hD R muSet_self
  rw [muDel_set hD'] at fz
  have F' := F.ev fz.1
  refine PySem.wpAny_assign_Name (F'.stoL hx fz.2 fun s'' F'' kn hsb => ?_)
  obtain ⟨m0, nl0, _⟩ := F.frm.ns
  have hne : C ≠ env.locals := fun e => by
    obtain ⟨o, _, _, g, _⟩ := nl0
    rw [← e, hCs] at g; cases g
  have nl' := nl.sameBut hsb hne
  refine ⟨m, nl', fun h' hs' => ?_⟩
  have KN := keepN_dict nl' hs'
  have FF : FS AllB h₀ s₀ μ₀ env (upd ρ x (.lst res)) μ' { s'' with heap := h' } := by
    refine ⟨F''.frm.trans KN.trans_ (fun m nn => nn.sameBut hs' hne.symm) fun _ c o _ i => i.sameBut hs' (dict_notCell nl' i), ⟨?_, fun b o nd e => ?_, F''.res.mu.trans KN.trans_ fun a vs k g => KN a _ (Solid.ndc (.inl ⟨_, _, rfl⟩)) g, F''.res.grow, F''.res.fresh⟩, F''.ext0, F''.new0, F''.freshL, F''.freshC⟩
    · obtain ⟨_, _, rfl⟩ := F''.res.same; exact ⟨_, _, rfl⟩
    · refine (hs'.2 b (fun e' => ?_)).trans (F''.res.keep b o nd e)
      subst e'
      have := own_back F hCs
      rw [e] at this; cases this
  exact hQ .next .next _ _ μ' (fin res μ' hI) FF ((Mid.of_res fz.1).trans (.of_keepN (kn.trans KN))) rfl
end

end Mine
end

section
open PySem PySem.Calls PyProof.Rows PySem.W
namespace Mine

section
variable {mg mb : Str → Option Value} {K : Frag} {h₀ : Heap} {prog : Program} {w : World} {n : Nat} {env : Env} {ρ : Str → Option V} {μ : Mu} {B : Str → Prop} {A : Around} {s₀ s : Shared} {μ₀ : Mu}

theorem lst_update {h : Heap} {a : Addr} {vs : Array Value} {k : Nat} (g : h.get? a = some (lstObj vs k)) (f : Array Value → Array Value) : ∃ k', (h.update a (Obj.mapSeq f)).get? a = some (lstObj (f vs) k') :=
  ⟨_, Heap.get?_update_self _ g rfl⟩

theorem setItem_lst' {E : Value → Shared → Prop} {a : Addr} {vs : Array Value} {k : Nat} {m : Int} {i : Nat} {t : Tok} {v : Value} {Q : Unit → Shared → Prop} (g : s.heap.get? a = some (lstObj vs k)) (hm : m = (i : Int)) (hi : i < vs.size) (hfit : Builtin.List.listFitsIndex m = true)
    (hQ : Q () { s with heap := s.heap.update a (Obj.mapSeq (·.setIfInBounds i v)) }) : wpAny (model prog w) A (setItem (.ref a) (.int m t) v) Q E s := by
  have hT : s.TypeIs (.ref a) "list" := ⟨_, g, rfl⟩
  unfold setItem
  with_reducible refine wpAny_holding ?_
  refine wpAny_bind (wpAny_sequenceKey hT (by decide) ?_)
  refine wpAny_bind (wpAny_callSpecial?_slot (name := Str.ofString "__setitem__") hT slot_list_setitem (wpAny_call_entry slot_list_setitem hT entry_list_setitem ?_ (args_list_setitem _ _ _)))
  show wpAny _ _ (Builtin.List.listSubscript? (.int m t) >>= _) _ _ s
  refine wpAny_bind (wpAny_listSubscript_int hfit ?_)
  clear hfit
  subst hm
  have hx : vs[i]? = some vs[i] := Array.getElem?_eq_getElem hi
  show wpAny _ _ ((seqItemAt a i >>= fun r => pure (r.map (i, ·))) >>= _) _ _ s
  refine wpAny_bind (wpAny_bind (wpAny_seqItemAt g rfl (wpAny_pure ?_)))
  rw [hx]
  show wpAny _ _ (setSeqItemAt a i v >>= _) _ _ s
  refine wpAny_bind (wpAny_setSeqItemAt g rfl ?_)
  first
    | exact wpAny_bind (wpAny_pure (wpAny_pure ⟨.none, rfl, wpAny_pure hQ⟩))
    | exact wpAny_pure ⟨.none, rfl, wpAny_pure hQ⟩
theorem setItem_lst {E : Value → Shared → Prop} {a : Addr} {vs : Array Value} {k : Nat} {i : Nat} {t : Tok} {v : Value} {Q : Unit → Shared → Prop} (g : s.heap.get? a = some (lstObj vs k)) (hi : i < vs.size) (hfit : i < 2 ^ 62)
    (hQ : Q () { s with heap := s.heap.update a (Obj.mapSeq (·.setIfInBounds i v)) }) : wpAny (model prog w) A (setItem (.ref a) (.int (i : Int) t) v) Q E s :=
  setItem_lst' g rfl hi (fitsIndex_of (by omega) (by omega)) hQ

theorem setItem_res {E : Value → Shared → Prop} {a : Addr} {l : List V} {i : Nat} {t : Tok} {x : V} {v : Value} {Q : Unit → Shared → Prop} (M : MuOk h₀ μ s.heap) (ha : μ a = some l) (hi : i < l.length) (hfit : i < 2 ^ 62) (q : Rep (dom μ) s.heap x v)
    (hQ : ∀ s', Res h₀ μ s (muSet μ a (l.set i x)) s' → Q () s') : wpAny (model prog w) A (setItem (.ref a) (.int (i : Int) t) v) Q E s := by
  obtain ⟨vs, k, g, qs⟩ := M.at_ a l ha
  have hz : vs.size = l.length := by have := qs.length; simpa using this
  refine setItem_lst g (by omega) hfit (hQ _ ?_)
  obtain ⟨k', g'⟩ := lst_update g (·.setIfInBounds i v)
  refine Res.mutate (tk := s.toks) M ha (Heap.SameBut.update ..) g' ?_
  rw [Array.toList_setIfInBounds]
  exact Reps.set i qs q

/-- o[i] = e -/
theorem Ex_setitem {o i : Expr} {p : Pos} {e : Expr} {pos : Pos} {Φ : Fl → (Str → Option V) → Mu → Prop}
    (h : Ev h₀ prog w n env ρ μ e fun v μ₁ => Ev h₀ prog w n env ρ μ₁ o fun vo μ₂ => Ev h₀ prog w n env ρ μ₂ i fun vi μ₃ =>
      ∃ (a : Addr) (l : List V) (j : Nat), vo = .mt a ∧ vi = .int (j : Int) ∧ μ₃ a = some l ∧ j < l.length ∧ j < 2 ^ 62 ∧ Φ .next ρ (muSet μ₃ a (l.set j v)))
    (hs : swapsWith e (some (.Subscript o i p)) pos.line env = pure false := by rfl) : Ex h₀ prog w n env ρ μ (.Assign [.Subscript o i p] e pos) Φ := by
  intro A s₀ μ₀ s E Q rm F hQ
  refine wpAny_Assign_Subscript (h A s E _ rm F.ext F.frm F.res.mu fun r s₁ v μ₁ p₁ R₁ q₁ => ?_) hs
  have F₁ := F.ev R₁
  refine p₁ A s₁ E _ rm F₁.ext F₁.frm F₁.res.mu fun ro s₂ vo μ₂ p₂ R₂ q₂ => ?_
  have F₂ := F₁.ev R₂
  refine p₂ A s₂ E _ rm F₂.ext F₂.frm F₂.res.mu fun ri s₃ vi μ₃ p₃ R₃ q₃ => ?_
  have F₃ := F₂.ev R₃
  obtain ⟨a, l, j, rfl, rfl, ha, hj, hj', p⟩ := p₃
  obtain rfl : ro = .ref a := q₂
  obtain ⟨t, rfl⟩ := q₃
  exact setItem_res F₃.res.mu ha hj hj' (Rep.res R₃ (Rep.res R₂ q₁)) fun s₄ R₄ => hQ .next .next s₄ ρ _ p (F₃.ev R₄) (.of_res (((R₁.trans R₂).trans R₃).trans R₄)) rfl

/-- o[i], o[j] = e -/
theorem Ex_setitem2 {o i o' i' : Expr} {p p' tp : Pos} {k : Nat} {e : Expr} {pos : Pos} {Φ : Fl → (Str → Option V) → Mu → Prop}
    (h : Ev h₀ prog w n env ρ μ e fun v μ₁ => ∃ x y, v = .tup [x, y] ∧ Ev h₀ prog w n env ρ μ₁ o fun vo μ₂ => Ev h₀ prog w n env ρ μ₂ i fun vi μ₃ =>
      ∃ (a : Addr) (l : List V) (j : Nat), vo = .mt a ∧ vi = .int (j : Int) ∧ μ₃ a = some l ∧ j < l.length ∧ j < 2 ^ 62 ∧
        Ev h₀ prog w n env ρ (muSet μ₃ a (l.set j x)) o' fun vo μ₂ => Ev h₀ prog w n env ρ μ₂ i' fun vi μ₃ =>
      ∃ (a : Addr) (l : List V) (j : Nat), vo = .mt a ∧ vi = .int (j : Int) ∧ μ₃ a = some l ∧ j < l.length ∧ j < 2 ^ 62 ∧ Φ .next ρ (muSet μ₃ a (l.set j y)))
    (hs : swapsWithSole [.Tuple [.Subscript o i p, .Subscript o' i' p'] k tp] e pos.line env = pure false := by rfl)
    (hw : swappedStores [.Tuple [.Subscript o i p, .Subscript o' i' p'] k tp] e env = pure none := by rfl) : Ex h₀ prog w n env ρ μ (.Assign [.Tuple [.Subscript o i p, .Subscript o' i' p'] k tp] e pos) Φ := by
  intro A s₀ μ₀ s E Q rm F hQ
  refine Assign_Tuple (h A s E _ rm F.ext F.frm F.res.mu fun r s₁ v μ₁ p₁ R₁ q₁ => ?_) hs hw
  obtain ⟨x, y, rfl, p₁⟩ := p₁
  obtain ⟨t, vs, k, rfl, nx, g, q⟩ := q₁
  obtain ⟨rx, rs, e1, qx, q⟩ := q
  obtain ⟨ry, rs', e2, qy, q⟩ := q
  obtain rfl := q.nil_inv
  have hz : vs.size = 2 := by have : vs.toList.length = 2 := by rw [e1, e2]; rfl
                              simpa using this
  refine wpAny_assign_Tuple rm.handled ⟨_, g, rfl, k, rfl⟩ (by rw [hz]; rfl) rfl fun h' he' => ?_
  have kp : Ext s₁.heap h' := fun b o e => he' b o (Nat.ne_of_lt (Heap.lt_size e)) e
  have F₁ := F.ev R₁
  have R₁' : Res h₀ μ₁ s₁ μ₁ { s₁ with heap := h' } := .of_ext (tk := s₁.toks) F₁.res.mu kp
  have F₁' := F₁.ev R₁'
  rw [e1, e2]
  show wpAny _ _ (do holding [ry] (assign (.Subscript o i p) env rx); holding [] (assign (.Subscript o' i' p') env ry); pure ()) _ _ _
  refine wpAny_bind (wpAny_holding ?_)
  rw [arm_assign_Subscript]
  refine wpAny_bind (wpAny_holding (p₁ A _ E _ rm F₁'.ext F₁'.frm F₁'.res.mu fun ro s₂ vo μ₂ p₂ R₂ q₂ => ?_))
  have F₂ := F₁'.ev R₂
  refine wpAny_bind (wpAny_holding (p₂ A s₂ E _ rm F₂.ext F₂.frm F₂.res.mu fun ri s₃ vi μ₃ p₃ R₃ q₃ => ?_))
  have F₃ := F₂.ev R₃
  obtain ⟨a, l, j, rfl, rfl, ha, hj, hj', p₃⟩ := p₃
  obtain rfl : ro = .ref a := q₂
  obtain ⟨t, rfl⟩ := q₃
  refine wpAny_bind (wpAny_standAt (wpAny_bind (wpAny_holding (setItem_res F₃.res.mu ha hj hj' (Rep.res R₃ (Rep.res R₂ (Rep.res R₁' qx))) fun s₄ R₄ => ?_))))
  refine PySem.wpAny_release ?_
  have F₄ := F₃.ev R₄
  have qy' := Rep.res R₄ (Rep.res R₃ (Rep.res R₂ (Rep.res R₁' qy)))
  refine wpAny_bind (wpAny_holding ?_)
  rw [arm_assign_Subscript]
  refine wpAny_bind (wpAny_holding (p₃ A s₄ E _ rm F₄.ext F₄.frm F₄.res.mu fun ro s₅ vo μ₅ p₅ R₅ q₅ => ?_))
  have F₅ := F₄.ev R₅
  refine wpAny_bind (wpAny_holding (p₅ A s₅ E _ rm F₅.ext F₅.frm F₅.res.mu fun ri s₆ vi μ₆ p₆ R₆ q₆ => ?_))
  have F₆ := F₅.ev R₆
  obtain ⟨a', l', j', rfl, rfl, ha2, hj2, hj2', p⟩ := p₆
  obtain rfl : ro = .ref a' := q₅
  obtain ⟨t, rfl⟩ := q₆
  refine wpAny_bind (wpAny_standAt (wpAny_bind (wpAny_holding (setItem_res F₆.res.mu ha2 hj2 hj2' (Rep.res R₆ (Rep.res R₅ qy')) fun s₇ R₇ => ?_))))
  refine PySem.wpAny_release (wpAny_pure ?_)
  exact hQ .next .next s₇ ρ _ p (F₆.ev R₇) (.of_res (((((((R₁.trans R₁').trans R₂).trans R₃).trans R₄).trans R₅).trans R₆).trans R₇)) rfl

/-- x, y = e, not exchanged -/
theorem Ex_assign2 {t : Expr} {elts : List Expr} {k : Nat} {tp : Pos} {e : Expr} {pos : Pos} {Φ : Fl → (Str → Option V) → Mu → Prop} (ht : t = .Tuple elts k tp)
    (h : Ev h₀ prog w n env ρ μ e fun v μ' => ∃ ρ', Asg AllB env ρ t v ρ' ∧ Φ .next ρ' μ')
    (hs : swapsWithSole [.Tuple elts k tp] e pos.line env = pure false := by rfl)
    (hw : swappedStores [.Tuple elts k tp] e env = pure none := by rfl) : Ex h₀ prog w n env ρ μ (.Assign [.Tuple elts k tp] e pos) Φ := by
  subst ht
  intro A s₀ μ₀ s E Q rm F hQ
  refine Assign_Tuple (h A s E _ rm F.ext F.frm F.res.mu fun r s₁ v μ₁ p₁ R₁ q₁ => ?_) hs hw
  obtain ⟨ρ', ha, p⟩ := p₁
  exact (F.ev R₁).asg rm.handled ha q₁ fun s' F' kn => hQ .next .next s' ρ' μ₁ p F' ((Mid.of_res R₁).trans (.of_keepN kn)) rfl

-- methods
theorem Ev_append {o e : Expr} {apos pos : Pos} {Φ : V → Mu → Prop}
    (h : Ev h₀ prog w n env ρ μ o fun vo μ₁ => ∃ a, vo = .mt a ∧ dom μ₁ a ∧ Ev h₀ prog w n env ρ μ₁ e fun v μ₂ => ∃ l, μ₂ a = some l ∧ l.length ≤ 2 ^ 23 ∧ Φ .none (muSet μ₂ a (l ++ [v])))
    (hbase : attributeBase o "append" env (eval o env) = eval o env := by rfl) (hs : starEach [e] env = [(false, eval e env)] := by rfl) (hline : (apos.endLine == pos.line) = true := by rfl) :
    Ev h₀ prog w n env ρ μ (.Call (.Attribute o "append" apos) [e] [] pos) Φ := by
  intro A s E Q rm ex F M hQ
  refine Call_method1 hbase hs hline (h A s E _ rm ex F M fun ro s₁ vo μ₁ p₁ R₁ q₁ => ?_)
  obtain ⟨a, rfl, ⟨l₁, ha₁⟩, p₁⟩ := p₁
  obtain rfl : ro = .ref a := q₁
  obtain ⟨vs₁, k₁, g₁, _⟩ := R₁.mu.at_ a l₁ ha₁
  refine ⟨"list", _, PySem.F.plainAttrs_list, PySem.F.slot_list_append, PySem.F.type_list_append, ⟨_, g₁, rfl⟩, fun a' e => by cases e; exact ⟨_, g₁, rfl⟩, P.append_list ?_⟩
  refine p₁ A s₁ E _ rm (R₁.ext M ex) (F.res M R₁) R₁.mu fun r s₂ v μ₂ p₂ R₂ q₂ => ?_
  obtain ⟨l, ha, hl, p⟩ := p₂
  obtain ⟨vs, k, g, qs⟩ := R₂.mu.at_ a l ha
  have hz : vs.size = l.length := by have := qs.length; simpa using this
  refine ⟨vs, k, by rw [hz, sizeLine_eq]; omega, g, ?_⟩
  obtain ⟨k', g'⟩ := lst_update g (fun xs => xs.push r)
  refine hQ _ _ .none _ p ((R₁.trans R₂).trans (Res.mutate (tk := s₂.toks) R₂.mu ha (Heap.SameBut.update ..) g' ?_)) rfl
  simpa using Reps.append qs (Reps.cons q₂ Reps.nil)
theorem Ev_extend {o e : Expr} {apos pos : Pos} {Φ : V → Mu → Prop}
    (h : Ev h₀ prog w n env ρ μ o fun vo μ₁ => ∃ a, vo = .mt a ∧ dom μ₁ a ∧ Ev h₀ prog w n env ρ μ₁ e fun v μ₂ => ∃ l l', μ₂ a = some l ∧ v = .lst l' ∧ l.length + l'.length ≤ 2 ^ 23 ∧ Φ .none (muSet μ₂ a (l ++ l')))
    (hbase : attributeBase o "extend" env (eval o env) = eval o env := by rfl) (hs : starEach [e] env = [(false, eval e env)] := by rfl) (hline : (apos.endLine == pos.line) = true := by rfl) :
    Ev h₀ prog w n env ρ μ (.Call (.Attribute o "extend" apos) [e] [] pos) Φ := by
  intro A s E Q rm ex F M hQ
  refine Call_method1 hbase hs hline (h A s E _ rm ex F M fun ro s₁ vo μ₁ p₁ R₁ q₁ => ?_)
  obtain ⟨a, rfl, ⟨l₁, ha₁⟩, p₁⟩ := p₁
  obtain rfl : ro = .ref a := q₁
  obtain ⟨vs₁, k₁, g₁, _⟩ := R₁.mu.at_ a l₁ ha₁
  refine ⟨"list", _, PySem.F.plainAttrs_list, PySem.F.slot_list_extend, PySem.F.type_list_extend, ⟨_, g₁, rfl⟩, fun a' e => by cases e; exact ⟨_, g₁, rfl⟩, P.extend_list ?_⟩
  refine p₁ A s₁ E _ rm (R₁.ext M ex) (F.res M R₁) R₁.mu fun r s₂ v μ₂ p₂ R₂ q₂ => ?_
  obtain ⟨l, l', ha, rfl, hl, p⟩ := p₂
  obtain ⟨b, vs', k', rfl, _, g', qs'⟩ := q₂
  obtain ⟨vs, k, g, qs⟩ := R₂.mu.at_ a l ha
  have hz : vs.size = l.length := by have := qs.length; simpa using this
  have hz' : vs'.size = l'.length := by have := qs'.length; simpa using this
  refine ⟨b, vs, vs', k, k', by rw [hz, sizeLine_eq]; omega, by rw [hz, hz', sizeLine_eq]; omega, extend_door (by rw [hz, hz', sizeLine_eq]; omega), rfl, g, g', ?_⟩
  obtain ⟨k2, g2⟩ := lst_update g (fun xs => xs ++ vs')
  refine hQ _ _ .none _ p ((R₁.trans R₂).trans (Res.mutate (tk := s₂.toks) R₂.mu ha (Heap.SameBut.update ..) g2 ?_)) rfl
  simpa using Reps.append qs qs'
theorem Ev_reverse {o : Expr} {apos pos : Pos} {Φ : V → Mu → Prop}
    (h : Ev h₀ prog w n env ρ μ o fun vo μ₁ => ∃ a l, vo = .mt a ∧ μ₁ a = some l ∧ l.length ≤ 2 ^ 23 ∧ Φ .none (muSet μ₁ a l.reverse))
    (hbase : attributeBase o "reverse" env (eval o env) = eval o env := by rfl) (hline : (apos.endLine == pos.line) = true := by rfl) :
    Ev h₀ prog w n env ρ μ (.Call (.Attribute o "reverse" apos) [] [] pos) Φ := by
  intro A s E Q rm ex F M hQ
  refine Call_method0 hbase hline (h A s E _ rm ex F M fun ro s₁ vo μ₁ p₁ R₁ q₁ => ?_)
  obtain ⟨a, l, rfl, ha, hl, p⟩ := p₁
  obtain rfl : ro = .ref a := q₁
  obtain ⟨vs, k, g, qs⟩ := R₁.mu.at_ a l ha
  have hz : vs.size = l.length := by have := qs.length; simpa using this
  refine ⟨"list", _, PySem.F.plainAttrs_list, PySem.F.slot_list_reverse, PySem.F.type_list_reverse, ⟨_, g, rfl⟩, fun a' e => by cases e; exact ⟨_, g, rfl⟩, P.reverse_list g ?_ (by rw [hz, sizeLine_eq]; omega)⟩
  obtain ⟨k', g'⟩ := lst_update g (fun xs => xs.reverse)
  refine hQ _ _ .none _ p (R₁.trans (Res.mutate (tk := s₁.toks) R₁.mu ha (Heap.SameBut.update ..) g' ?_)) rfl
  simpa using Reps.reverse qs
end

end Mine
end

section
open PySem PySem.Calls PyProof.Rows PySem.W
namespace Mine

section
variable {mg mb : Str → Option Value} {K : Frag} {h₀ : Heap} {prog : Program} {w : World} {n : Nat} {env : Env} {ρ : Str → Option V} {μ : Mu} {B : Str → Prop} {A : Around} {s₀ s : Shared} {μ₀ : Mu}

theorem notDom_size (M : MuOk h₀ μ s.heap) : ¬ dom μ s.heap.objs.size := fun ⟨l, e⟩ => by
  obtain ⟨_, _, g, _⟩ := M.at_ _ l e
  rw [get?_size] at g; cases g
theorem none_size (M : MuOk h₀ μ s.heap) : μ s.heap.objs.size = none := by
  cases e : μ s.heap.objs.size with
  | none => rfl
  | some l => exact absurd ⟨l, e⟩ (notDom_size M)

theorem foldl_rep {r : Value} : ∀ (m : Nat) (acc : Array Value), (List.foldl (fun x1 x2 => x1 ++ x2) acc (List.replicate m #[r])).toList = acc.toList ++ List.replicate m r
  | 0, acc => by simp
  | m + 1, acc => by
    rw [List.replicate_succ, List.foldl_cons, foldl_rep m]
    simp [List.replicate_succ]

theorem op_mulL' {x : V} {m : Nat} {y : Int} (hy : y = (m : Int)) (hm : m ≤ 2 ^ 24) {Φ : V → Mu → Prop} (h : Φ (.lst (List.replicate m x)) μ) : Op2 h₀ prog w n μ (binaryOp .Mult) (.lst [x]) (.int y) Φ := by
  rintro A s E Q rm ex M _ _ ⟨a, vs, k, rfl, nx, g, q⟩ ⟨u, rfl⟩ hQ
  obtain ⟨r, rs, e1, qr, q⟩ := q
  obtain rfl := q.nil_inv
  obtain rfl : vs = #[r] := by
    have : vs.toList = [r] := e1
    exact Array.toList_inj.mp (by rw [this])
  have kp := Ext.push s.heap { cls := .type "list", data := .seq (List.foldl (fun x1 x2 => x1 ++ x2) #[] (List.replicate y.toNat #[r])) }
  refine wpAny_binaryOp_repeat_ref (T := "list") (U := "int") (by decide) ⟨_, g, rfl⟩ (fun s' => typeIs_int s' y u) noFill_list_mul PySem.F.fills_int_mul PySem.F.slot_int_rmul repeat_list PySem.F.slot_int_index.lookup
    (call_meets PySem.F.slot_int_rmul (typeIs_int s y u) PySem.F.entry_int_rmul (PySem.F.args_int_rmul_2 _ _) (int___rmul___int_list y u a #[r] k)
      ⟨g, rfl, ⟨_, g, rfl⟩, call_meets PySem.F.slot_list_mul ⟨_, g, rfl⟩ PySem.F.entry_list_mul (PySem.F.args_list_mul_2 _ _)
        (AutoListH.list___mul___list_int_3 a #[r] k y u (by simp [Builtin.List.listFitsIndex]; omega) (by simp; omega) (by simp [Builtin.List.listTooLong, sizeLine]; omega)) ⟨g, ?_⟩⟩)
  refine hQ _ _ _ μ h (.of_ext (tk := s.toks) M kp) ⟨_, _, _, rfl, notDom_size M, Heap.get?_push_size _ rfl, ?_⟩
  have e : y.toNat = m := by omega
  have e2 : (List.foldl (fun x1 x2 => x1 ++ x2) #[] (List.replicate y.toNat #[r])).toList = List.replicate m r := by rw [e, foldl_rep]; simp
  show Reps _ _ _ (List.foldl (fun x1 x2 => x1 ++ x2) #[] (List.replicate y.toNat #[r])).toList
  rw [e2]
  exact Reps.replicate (Rep.mono (.of_ext kp) _ _ qr) m
theorem op_mulL {x : V} {m : Nat} (hm : m ≤ 2 ^ 24) {Φ : V → Mu → Prop} (h : Φ (.lst (List.replicate m x)) μ) : Op2 h₀ prog w n μ (binaryOp .Mult) (.lst [x]) (.int (m : Int)) Φ := op_mulL' rfl hm h

theorem op_addM {l l' : List V} (hl : l.length + l'.length ≤ 2 ^ 24) {Φ : V → Mu → Prop} (h : ∀ a, μ a = none → Φ (.mt a) (muSet μ a (l ++ l'))) : Op2 h₀ prog w n μ (binaryOp .Add) (.lst l) (.lst l') Φ := by
  rintro A s E Q rm ex M _ _ ⟨a, vs, k, rfl, nx, g, q⟩ ⟨a', vs', k', rfl, nx', g', q'⟩ hQ
  have hz : vs.size = l.length := by have := q.length; simpa using this
  have hz' : vs'.size = l'.length := by have := q'.length; simpa using this
  refine P.add_list g g' ?_ (by rw [hz, hz', sizeLine_eq]; omega)
  have kp := Ext.push s.heap { cls := .type "list", data := .seq (vs ++ vs') }
  exact hQ _ _ _ _ (h _ (none_size M)) (res_new (tk := s.toks) M ex kp (get?_size _) (Heap.get?_push_size _ rfl) (by simpa using Reps.append q q')) rfl

/-- l[::-1] -/
theorem Ev_rev {l st : Expr} {p pos : Pos} {Φ : V → Mu → Prop}
    (h : Ev h₀ prog w n env ρ μ l fun v μ₁ => Ev h₀ prog w n env ρ μ₁ st fun v₂ μ₂ => v₂ = .int (-1) ∧ ∃ xs, v = .lst xs ∧ xs.length ≤ 2 ^ 24 ∧ Φ (.lst xs.reverse) μ₂)
    (ht : ∀ o r, letTemporaryGo l o r = pure () := by intro _ _; rfl) : Ev h₀ prog w n env ρ μ (.Subscript l (.Slice none none (some st) p) pos) Φ := by
  intro A s E Q rm ex F M hQ
  refine wpAny_Subscript_Slice_step (T := "list") list_getitem_lookup (h A s E _ rm ex F M fun ro s₁ v μ₁ p₁ R₁ q₁ => wpAny_Slice ?_) ht
  rw [evalPart_none]
  refine wpAny_pure (wpAny_pure ?_)
  rw [evalPart_some]
  refine p₁ A s₁ E _ rm (R₁.ext M ex) (F.res M R₁) R₁.mu fun rst s₂ v₂ μ₂ p₂ R₂ q₂ => ?_
  obtain ⟨rfl, xs, rfl, hl, p⟩ := p₂
  obtain ⟨t, rfl⟩ := q₂
  obtain ⟨a, vs, k, rfl, nx, g, q⟩ := Rep.res R₂ q₁
  have hz : vs.size = xs.length := by have := q.length; simpa using this
  have kp := Ext.push s₂.heap { cls := .type "slice", data := .fields #[.none, .none, .int (-1) t] }
  refine ⟨⟨_, kp _ _ g, rfl⟩, wpAny_getItem_list_slice ⟨_, kp _ _ g, rfl, k, rfl⟩ (Heap.IsSliceOf.new ..) .none .none (.int (-1) t) (by simp) ?_ (by rw [hz, sizeLine_eq]; omega)⟩
  rw [krv_pick]
  have M₂ := R₂.mu.ext kp
  have R₃ : Res h₀ μ₂ s₂ μ₂ { s₂ with heap := s₂.heap.push { cls := .type "slice", data := .fields #[.none, .none, .int (-1) t] } } := .of_ext (tk := s₂.toks) R₂.mu kp
  have kp' := Ext.push (s₂.heap.push { cls := .type "slice", data := .fields #[.none, .none, .int (-1) t] }) { cls := .type "list", data := .seq vs.toList.reverse.toArray }
  have R₄ : Res h₀ μ₂ { s₂ with heap := s₂.heap.push { cls := .type "slice", data := .fields #[.none, .none, .int (-1) t] } } μ₂ { s₂ with heap := (s₂.heap.push { cls := .type "slice", data := .fields #[.none, .none, .int (-1) t] }).push { cls := .type "list", data := .seq vs.toList.reverse.toArray } } := .of_ext (tk := s₂.toks) M₂ kp'
  refine hQ _ _ _ μ₂ p (((R₁.trans R₂).trans R₃).trans R₄) ⟨_, _, _, rfl, notDom_size (s := { s₂ with heap := s₂.heap.push { cls := .type "slice", data := .fields #[.none, .none, .int (-1) t] } }) M₂, Heap.get?_push_size _ rfl, ?_⟩
  simpa using Reps.reverse (Reps.mono (.of_ext (kp.trans kp')) _ _ q)

/-- l[:m] -/
theorem Ev_upto {l st : Expr} {p pos : Pos} {Φ : V → Mu → Prop}
    (h : Ev h₀ prog w n env ρ μ l fun v μ₁ => Ev h₀ prog w n env ρ μ₁ st fun v₂ μ₂ => ∃ (m : Nat) (xs : List V), v₂ = .int (m : Int) ∧ v = .lst xs ∧ xs.length ≤ 2 ^ 24 ∧ Φ (.lst (xs.take m)) μ₂)
    (ht : ∀ o r, letTemporaryGo l o r = pure () := by intro _ _; rfl) : Ev h₀ prog w n env ρ μ (.Subscript l (.Slice none (some st) none p) pos) Φ := by
  intro A s E Q rm ex F M hQ
  refine wpAny_Subscript_list_slice (h A s E _ rm ex F M fun ro s₁ v μ₁ p₁ R₁ q₁ => ?_) ht
  rw [evalPart_none]
  refine wpAny_pure ?_
  rw [evalPart_some]
  refine p₁ A s₁ E _ rm (R₁.ext M ex) (F.res M R₁) R₁.mu fun rst s₂ v₂ μ₂ p₂ R₂ q₂ => ?_
  obtain ⟨m, xs, rfl, rfl, hl, p⟩ := p₂
  obtain ⟨t, rfl⟩ := q₂
  obtain ⟨a, vs, k, rfl, nx, g, q⟩ := Rep.res R₂ q₁
  have hz : vs.size = xs.length := by have := q.length; simpa using this
  refine ⟨a, vs, none, some (m : Int), rfl, ⟨_, g, rfl, k, rfl⟩, by rw [hz, sizeLine_eq]; omega, .none, .int _ _, ?_⟩
  have kp := Ext.push s₂.heap { cls := .type "slice", data := .fields #[.none, .int (m : Int) t, .none] }
  have M₂ := R₂.mu.ext kp
  have R₃ : Res h₀ μ₂ s₂ μ₂ { s₂ with heap := s₂.heap.push { cls := .type "slice", data := .fields #[.none, .int (m : Int) t, .none] } } := .of_ext (tk := s₂.toks) R₂.mu kp
  have kp' := Ext.push (s₂.heap.push { cls := .type "slice", data := .fields #[.none, .int (m : Int) t, .none] }) { cls := .type "list", data := .seq (slicePick vs none (some (m : Int)) none) }
  have R₄ : Res h₀ μ₂ { s₂ with heap := s₂.heap.push { cls := .type "slice", data := .fields #[.none, .int (m : Int) t, .none] } } μ₂ { s₂ with heap := (s₂.heap.push { cls := .type "slice", data := .fields #[.none, .int (m : Int) t, .none] }).push { cls := .type "list", data := .seq (slicePick vs none (some (m : Int)) none) } } := .of_ext (tk := s₂.toks) M₂ kp'
  have esz : s₂.heap.objs.size + 1 = (s₂.heap.push { cls := .type "slice", data := .fields #[.none, .int (m : Int) t, .none] }).objs.size := (Heap.size_push ..).symm
  rw [esz]
  refine hQ _ _ _ μ₂ p (((R₁.trans R₂).trans R₃).trans R₄) ⟨_, _, _, rfl, notDom_size (s := { s₂ with heap := s₂.heap.push { cls := .type "slice", data := .fields #[.none, .int (m : Int) t, .none] } }) M₂, Heap.get?_push_size _ rfl, ?_⟩
  have pick : (slicePick vs none (some (m : Int)) none).toList = vs.toList.take m := by rw [slicePick_upto']
  rw [pick]
  exact Reps.take m (Reps.mono (.of_ext (kp.trans kp')) _ _ q)
end

end Mine
end

section
open PySem PySem.Calls PyProof.Rows PySem.W
namespace Mine

section
variable {mg mb : Str → Option Value} {K : Frag} {h₀ : Heap} {prog : Program} {w : World} {n : Nat} {env : Env} {ρ : Str → Option V} {μ : Mu} {B : Str → Prop} {A : Around} {s₀ s : Shared} {μ₀ : Mu}

/-- a comprehension whose elements change nothing: the new list -/
theorem Ev_compN {elt t iter : Expr} {scope : Scope} {pos : Pos} {own : List Str} (S : ScopeOk scope own env) {Φ : V → Mu → Prop}
    (h : ItEv h₀ prog w n env ρ μ t iter fun items μ₁ => items.length ≤ 2 ^ 24 ∧ ∃ ys : List V, ys.length = items.length ∧
      (∀ C cells (k : Nat) x y, items[k]? = some x → ys[k]? = some y → ∃ ρ'', Asg (fun y => scope.names.lookup y ≠ some .free) (compEnvC scope cells C env) (subR scope ρ) t x ρ'' ∧ (∀ y v, subR scope ρ y = some v → ρ'' y = some v) ∧
        ∀ μD : Mu, (∀ a l, μ₁ a = some l → μD a = some l) → Ev h₀ prog w n (compEnvC scope cells C env) ρ'' μD elt fun v μ₃ => v = y ∧ μ₃ = μD) ∧ ∀ a, μ a = none → μ₁ a = none → Φ (.mt a) (muSet μ₁ a ys))
    (hs : ∀ x, foldedSetIterable iter env x = pure x := by intro _; rfl) : Ev h₀ prog w n env ρ μ (.ListComp elt [⟨t, iter, [], 0⟩] scope pos) Φ := by
  refine (Ev_compM S (fun A s E Q rm ex F M hQ => h A s E Q rm ex F M fun it s' items μ' ownI p R => hQ it s' items μ' ownI ?_ R) hs)
  obtain ⟨hlen, ys, hy, step, fin⟩ := p
  refine ⟨hlen, fun k res μ₂ => res = ys.take k ∧ μ₂ = μ' ∧ k ≤ ys.length, ⟨by simp, rfl, Nat.zero_le _⟩, ?_, ?_, ?_⟩
  · rintro k res μ₂ ⟨rfl, rfl, hk⟩
    exact ⟨by rw [List.length_take]; omega, rfl⟩
  · rintro C cells D k x res μ₂ hx ⟨rfl, rfl, hk⟩ hD
    have hlt : k < ys.length := by rw [hy]; exact (List.getElem?_eq_some_iff.mp hx).1
    obtain ⟨ρ'', ha, hle, hev⟩ := step C cells k x ys[k] hx (List.getElem?_eq_getElem hlt)
    refine ⟨ρ'', ha, hle, TsF_nil ⟨μ₂, rfl, hD, fun e => (nomatch e), fun _ => ?_⟩⟩
    refine (hev _ fun a l e => ?_).mono ?_
    · unfold muSet; split
      · rename_i e'; subst e'; rw [hD] at e; cases e
      · exact e
    · rintro v μ₃ ⟨rfl, rfl⟩
      exact ⟨μ₂, rfl, hD, by rw [List.take_add_one, List.getElem?_eq_getElem hlt]; rfl, rfl, hlt⟩
  · rintro res μ₂ a ⟨rfl, rfl, hk⟩ hn hn'
    rw [← hy, List.take_length]
    exact fin a hn hn'

theorem Fn.freezeG {f : Value} {xs : List V} {Φ : V → Mu → Prop} (h : Fn h₀ prog w n f μ xs fun v μ' => ∃ a l μ₁, μ a = none ∧ μ₁ a = none ∧ v = .mt a ∧ μ' = muSet μ₁ a l ∧ Φ (.lst l) μ₁) : Fn h₀ prog w n f μ xs Φ := by
  intro A s E Q rm ex M as q hQ
  refine h A s E Q rm ex M as q fun r s' v μ' ⟨a, l, μ₁, hn, hn1, e1, e2, k⟩ R q' => ?_
  subst e1 e2
  obtain rfl : r = .ref a := q'
  have := res_freeze (l := l) hn R muSet_self
  rw [muDel_set hn1] at this
  exact hQ _ s' _ _ k this.1 this.2

theorem muDel_trans {μ' : Mu} {a : Addr} {h : Heap} : Trans (dom μ') h (dom (muDel μ' a)) h := fun _ _ _ nx g => ⟨fun d => nx (dom_del.mp d).2, g⟩

theorem Fn.freezeT {f : Value} {xs : List V} {Φ : V → Mu → Prop} (h : Fn h₀ prog w n f μ xs fun v μ' => ∃ a b la lb μ₁, μ a = none ∧ μ b = none ∧ μ₁ a = none ∧ μ₁ b = none ∧ a ≠ b ∧ v = .tup [.mt a, .mt b] ∧ μ' = muSet (muSet μ₁ a la) b lb ∧ Φ (.tup [.lst la, .lst lb]) μ₁) : Fn h₀ prog w n f μ xs Φ := by
  intro A s E Q rm ex M as q hQ
  refine h A s E Q rm ex M as q fun r s' v μ' ⟨a, b, la, lb, μ₁, hn, hn', hn1, hn1', hab, e1, e2, k⟩ R q' => ?_
  subst e1 e2
  obtain ⟨t, vs, k', rfl, nx, g, q'⟩ := q'
  obtain ⟨ra, rs, e1, qa, q'⟩ := q'
  obtain ⟨rb, rs', e2, qb, q'⟩ := q'
  obtain rfl := q'.nil_inv
  obtain rfl : ra = .ref a := qa
  obtain rfl : rb = .ref b := qb
  have hb := res_freeze (l := lb) hn' R muSet_self
  have e : muDel (muSet (muSet μ₁ a la) b lb) b = muSet μ₁ a la := muDel_set (by unfold muSet; rw [if_neg (Ne.symm hab)]; exact hn1')
  have ha := res_freeze (l := la) hn hb.1 (by rw [e]; exact muSet_self)
  have e' : muDel (muDel (muSet (muSet μ₁ a la) b lb) b) a = μ₁ := by rw [e]; exact muDel_set hn1
  have T1 : Trans (dom (muSet (muSet μ₁ a la) b lb)) s'.heap (dom (muDel (muSet (muSet μ₁ a la) b lb) b)) s'.heap := muDel_trans
  have T2 : Trans (dom (muDel (muSet (muSet μ₁ a la) b lb) b)) s'.heap (dom (muDel (muDel (muSet (muSet μ₁ a la) b lb) b) a)) s'.heap := muDel_trans
  rw [e'] at T2
  refine hQ _ s' _ μ₁ k (e' ▸ ha.1) ⟨t, vs, k', rfl, (T2 t _ (.inl ⟨_, _, rfl⟩) (T1 t _ (.inl ⟨_, _, rfl⟩) nx g).1 g).1, g, ?_⟩
  rw [e1, e2]
  exact Reps.cons (e' ▸ ha.2) (Reps.cons (Rep.mono T2 _ _ hb.2) Reps.nil)
end

end Mine
end

section
open PySem PySem.Calls PyProof.Rows PySem.W
namespace Mine

def Bd (k : Nat) (q : Rat) : Prop := q.num.natAbs < 2 ^ k ∧ q.den < 2 ^ k

theorem Bd.mono {k m : Nat} {q : Rat} (h : Bd k q) (hk : k ≤ m) : Bd m q :=
  ⟨Nat.lt_of_lt_of_le h.1 (Nat.pow_le_pow_right (by decide) hk), Nat.lt_of_lt_of_le h.2 (Nat.pow_le_pow_right (by decide) hk)⟩

theorem divInt_num_le {a b : Int} : (Rat.divInt a b).num.natAbs ≤ a.natAbs := by
  rw [Rat.num_divInt]
  by_cases hb : b = 0
  · subst hb; simp
  · have h1 : b.sign.natAbs = 1 := Int.natAbs_sign_of_ne_zero hb
    have hd : ((b.gcd a : Nat) : Int) ∣ b.sign * a := Int.dvd_mul_of_dvd_right (Int.gcd_dvd_right ..)
    rw [Int.natAbs_ediv_of_dvd hd, Int.natAbs_mul, h1, Nat.one_mul]
    exact Nat.div_le_self _ _
theorem divInt_den_le {a b : Int} (hb : b ≠ 0) : (Rat.divInt a b).den ≤ b.natAbs := by
  rw [Rat.den_divInt, if_neg hb]
  exact Nat.div_le_self _ _

theorem rat_norm (a b : Int) (hb : b ≠ 0) : a.fdiv (if 0 < b then (Int.gcd a b : Int) else 0 - (Int.gcd a b : Int)) = (Rat.divInt a b).num ∧
    b.fdiv (if 0 < b then (Int.gcd a b : Int) else 0 - (Int.gcd a b : Int)) = ((Rat.divInt a b).den : Int) := by
  rw [Rat.num_divInt, Rat.den_divInt, if_neg hb]
  have hg : (Int.gcd a b : Int) ≠ 0 := by
    intro e
    have : Int.gcd a b = 0 := by omega
    exact hb (Int.gcd_eq_zero_iff.mp this).2
  obtain ⟨k, hk⟩ : ((Int.gcd a b : Nat) : Int) ∣ a := Int.gcd_dvd_left ..
  obtain ⟨m, hm⟩ : ((Int.gcd a b : Nat) : Int) ∣ b := Int.gcd_dvd_right ..
  have hcomm : Int.gcd b a = Int.gcd a b := Int.gcd_comm ..
  rw [hcomm]
  generalize hG : Int.gcd a b = g at *
  have hgpos : 0 < (g : Int) := by omega
  have hden : ((b.natAbs / g : Nat) : Int) = (m.natAbs : Int) := by
    rw [hm, Int.natAbs_mul, Int.natAbs_natCast, Nat.mul_div_cancel_left _ (by omega)]
  rw [hden]
  by_cases hpos : 0 < b
  · rw [if_pos hpos]
    have hm0 : 0 < m := by
      rw [hm] at hpos
      by_cases h : 0 < m
      · exact h
      · have := Int.mul_nonneg (Int.le_of_lt hgpos) (by omega : (0 : Int) ≤ -m)
        rw [Int.mul_neg] at this
        omega
    rw [Int.sign_eq_one_of_pos hpos, Int.one_mul, hk, hm, Int.mul_ediv_cancel_left _ hg, Int.mul_fdiv_cancel_left _ hg, Int.mul_fdiv_cancel_left _ hg]
    exact ⟨rfl, by omega⟩
  · rw [if_neg hpos]
    have hneg : b < 0 := by omega
    have hm0 : m < 0 := by
      rw [hm] at hneg
      by_cases h : m < 0
      · exact h
      · have := Int.mul_nonneg (Int.le_of_lt hgpos) (by omega : (0 : Int) ≤ m)
        omega
    have e1 : a = (0 - (g : Int)) * (-k) := by rw [hk]; grind
    have e2 : b = (0 - (g : Int)) * (-m) := by rw [hm]; grind
    have hg' : (0 - (g : Int)) ≠ 0 := by omega
    rw [Int.sign_eq_neg_one_of_neg hneg]
    constructor
    · conv => lhs; rw [e1]
      rw [Int.mul_fdiv_cancel_left _ hg', hk]
      have : (-1 : Int) * ((g : Int) * k) = (g : Int) * (-k) := by grind
      rw [this, Int.mul_ediv_cancel_left _ hg]
    · conv => lhs; rw [e2]
      rw [Int.mul_fdiv_cancel_left _ hg']
      omega

theorem mulOk {a b : Int} {j k : Nat} (ha : a.natAbs < 2 ^ j) (hb : b.natAbs < 2 ^ k) (h : j + k ≤ 2 ^ 26) : IntMulOk a b := by
  have bits : ∀ (x : Int) (m : Nat), x.natAbs < 2 ^ m → Builtin.Int.intBits x ≤ m := fun x m hx => by
    unfold Builtin.Int.intBits
    split
    · exact Nat.zero_le _
    · rename_i h0
      have hne : x.natAbs ≠ 0 := by simpa using h0
      have := (Nat.log2_lt hne).mpr hx
      omega
  unfold IntMulOk
  have h1 := bits a j ha
  have h2 := bits b k hb
  have : Builtin.Int.intTooBig ((Builtin.Int.intBits a : Int) + (Builtin.Int.intBits b : Int)) = false := by
    unfold Builtin.Int.intTooBig
    have e : bitsLine = 2 ^ 27 := rfl
    rw [e]
    simp only [decide_eq_false_iff_not, gt_iff_lt, Int.not_lt]
    omega
  simp [this]

theorem add_eq_divInt (p q : Rat) : p + q = Rat.divInt (p.num * q.den + q.num * p.den) (p.den * q.den) := by
  conv => lhs; rw [← Rat.num_divInt_den p, ← Rat.num_divInt_den q]
  rw [Rat.divInt_add_divInt _ _ (by have := p.den_nz; omega) (by have := q.den_nz; omega)]
theorem sub_eq_divInt (p q : Rat) : p - q = Rat.divInt (p.num * q.den - q.num * p.den) (p.den * q.den) := by
  have e : p - q = p + (-q) := by grind
  rw [e, add_eq_divInt, Rat.neg_num, Rat.neg_den]
  congr 1; grind
theorem mul_eq_divInt (p q : Rat) : p * q = Rat.divInt (p.num * q.num) (p.den * q.den) := by
  conv => lhs; rw [← Rat.num_divInt_den p, ← Rat.num_divInt_den q]
  rw [Rat.divInt_mul_divInt]
theorem div_eq_divInt (p q : Rat) : p / q = Rat.divInt (p.num * q.den) (p.den * q.num) := by
  rw [Rat.div_def, Rat.inv_def]
  conv => lhs; rw [← Rat.num_divInt_den p]
  rw [Rat.divInt_mul_divInt]

theorem natAbs_add_lt {a b : Int} {k : Nat} (ha : a.natAbs < 2 ^ k) (hb : b.natAbs < 2 ^ k) : (a + b).natAbs < 2 ^ (k + 1) := by
  have := Int.natAbs_add_le a b
  rw [Nat.pow_succ]; omega
theorem mul_lt_pow {a b j k : Nat} (ha : a < 2 ^ j) (hb : b < 2 ^ k) : a * b < 2 ^ (j + k) := by
  rw [Nat.pow_add]
  exact Nat.mul_lt_mul'' ha hb

theorem Bd.add {j k : Nat} {p q : Rat} (hp : Bd j p) (hq : Bd k q) : Bd (j + k + 1) (p + q) := by
  rw [add_eq_divInt]
  have hne : ((p.den : Int) * q.den) ≠ 0 := Int.mul_ne_zero (by have := p.den_nz; omega) (by have := q.den_nz; omega)
  refine ⟨Nat.lt_of_le_of_lt divInt_num_le (natAbs_add_lt ?_ ?_), Nat.lt_of_le_of_lt (divInt_den_le hne) ?_⟩
  · rw [Int.natAbs_mul, Int.natAbs_natCast]; exact mul_lt_pow hp.1 hq.2
  · rw [Int.natAbs_mul, Int.natAbs_natCast, Nat.add_comm j k]; exact mul_lt_pow hq.1 hp.2
  · rw [Int.natAbs_mul, Int.natAbs_natCast, Int.natAbs_natCast, Nat.pow_succ]
    have := mul_lt_pow hp.2 hq.2
    omega
theorem Bd.neg {k : Nat} {q : Rat} (h : Bd k q) : Bd k (-q) := ⟨by rw [Rat.neg_num, Int.natAbs_neg]; exact h.1, by rw [Rat.neg_den]; exact h.2⟩
theorem Bd.sub {j k : Nat} {p q : Rat} (hp : Bd j p) (hq : Bd k q) : Bd (j + k + 1) (p - q) := by
  have e : p - q = p + (-q) := by grind
  rw [e]; exact hp.add hq.neg
theorem Bd.mul {j k : Nat} {p q : Rat} (hp : Bd j p) (hq : Bd k q) : Bd (j + k) (p * q) := by
  rw [mul_eq_divInt]
  have hne : ((p.den : Int) * q.den) ≠ 0 := Int.mul_ne_zero (by have := p.den_nz; omega) (by have := q.den_nz; omega)
  refine ⟨Nat.lt_of_le_of_lt divInt_num_le ?_, Nat.lt_of_le_of_lt (divInt_den_le hne) ?_⟩
  · rw [Int.natAbs_mul]; exact mul_lt_pow hp.1 hq.1
  · rw [Int.natAbs_mul, Int.natAbs_natCast, Int.natAbs_natCast]; exact mul_lt_pow hp.2 hq.2
theorem Bd.div {j k : Nat} {p q : Rat} (hp : Bd j p) (hq : Bd k q) (h0 : q ≠ 0) : Bd (j + k) (p / q) := by
  rw [div_eq_divInt]
  have hn : q.num ≠ 0 := by rwa [ne_eq, Rat.num_eq_zero]
  have hne : ((p.den : Int) * q.num) ≠ 0 := Int.mul_ne_zero (by have := p.den_nz; omega) hn
  refine ⟨Nat.lt_of_le_of_lt divInt_num_le ?_, Nat.lt_of_le_of_lt (divInt_den_le hne) ?_⟩
  · rw [Int.natAbs_mul, Int.natAbs_natCast]; exact mul_lt_pow hp.1 hq.2
  · rw [Int.natAbs_mul, Int.natAbs_natCast]; exact mul_lt_pow hp.2 hq.1
theorem Bd.zero {k : Nat} (h : 1 ≤ k) : Bd k 0 := ⟨by simpa using Nat.pos_of_ne_zero (by simp), by
  have : 2 ^ 1 ≤ 2 ^ k := Nat.pow_le_pow_right (by decide) h
  show 1 < 2 ^ k; omega⟩
theorem Bd.ofInt {k : Nat} {i : Int} (h : i.natAbs < 2 ^ k) (hk : 1 ≤ k) : Bd k (i : Rat) := ⟨by simpa using h, by
  have : 2 ^ 1 ≤ 2 ^ k := Nat.pow_le_pow_right (by decide) hk
  simp; omega⟩

def ratV (q : Rat) : V := .tup [.int q.num, .int (q.den : Int)]
end Mine
end

section
open PySem PySem.Calls PyProof.Rows PySem.W
namespace Mine

def swapR (g : Nat → Nat → Rat) (i j : Nat) : Nat → Nat → Rat := fun k => if k = j then g i else if k = i then g j else g k
def divR (g : Nat → Nat → Rat) (row col : Nat) : Nat → Nat → Rat := fun k => if k = row then fun l => g row l / g row col else g k
def clrR (g : Nat → Nat → Rat) (row col m : Nat) : Nat → Nat → Rat := fun k => if k < m ∧ k ≠ row then fun l => g k l - g k col * g row l else g k

structure ES where
  g : Nat → Nat → Rat
  piv : List Nat

def spots (r row col : Nat) (g : Nat → Nat → Rat) : List Nat := ((List.range (r - row)).map (row + ·)).filter fun i => decide (g i col ≠ 0)
def echStep (r : Nat) (S : ES) (col : Nat) : ES := match spots r S.piv.length col S.g with
  | [] => S
  | i :: _ => ⟨clrR (divR (swapR S.g S.piv.length i) S.piv.length col) S.piv.length col r, S.piv ++ [col]⟩
def ech (r : Nat) (f : Nat → Nat → Rat) : Nat → ES
  | 0 => ⟨f, []⟩
  | k + 1 => echStep r (ech r f k) k

theorem spots_mem {r row col i : Nat} {g : Nat → Nat → Rat} (h : i ∈ spots r row col g) : row ≤ i ∧ i < r ∧ g i col ≠ 0 := by
  unfold spots at h
  rw [List.mem_filter, List.mem_map] at h
  obtain ⟨⟨a, ha, rfl⟩, hg⟩ := h
  rw [List.mem_range] at ha
  exact ⟨by omega, by omega, by simpa using hg⟩
theorem spots_nil {r row col i : Nat} {g : Nat → Nat → Rat} (h : spots r row col g = []) (h1 : row ≤ i) (h2 : i < r) : g i col = 0 := by
  unfold spots at h
  rw [List.filter_eq_nil_iff] at h
  have := h i (by rw [List.mem_map]; exact ⟨i - row, by rw [List.mem_range]; omega, by omega⟩)
  simpa using this

theorem clrR_zero {g : Nat → Nat → Rat} {row col : Nat} : clrR g row col 0 = g := by
  funext k; unfold clrR; rw [if_neg (by omega)]
theorem clrR_row {g : Nat → Nat → Rat} {row col m : Nat} : clrR g row col m row = g row := by
  unfold clrR; rw [if_neg (by omega)]
theorem clrR_self {g : Nat → Nat → Rat} {row col m k : Nat} (h : m ≤ k) : clrR g row col m k = g k := by
  unfold clrR; rw [if_neg (by omega)]
theorem clrR_skip {g : Nat → Nat → Rat} {row col m : Nat} (h : m = row ∨ g m col = 0) : clrR g row col (m + 1) = clrR g row col m := by
  funext k; unfold clrR
  by_cases hk : k = m
  · subst hk
    rcases h with h | h
    · rw [if_neg (by omega), if_neg (by omega)]
    · by_cases hr : k = row
      · rw [if_neg (by omega), if_neg (by omega)]
      · rw [if_pos ⟨by omega, hr⟩, if_neg (by omega), h]
        funext l; grind
  · by_cases hr : k < m ∧ k ≠ row
    · rw [if_pos hr, if_pos ⟨by omega, hr.2⟩]
    · rw [if_neg hr, if_neg (by omega)]
theorem clrR_step {g : Nat → Nat → Rat} {row col m : Nat} (h : m ≠ row) : clrR g row col (m + 1) = fun k => if k = m then fun l => g m l - g m col * g row l else clrR g row col m k := by
  funext k; unfold clrR
  by_cases hk : k = m
  · subst hk; rw [if_pos ⟨by omega, h⟩, if_pos rfl]
  · rw [if_neg hk]
    by_cases hr : k < m ∧ k ≠ row
    · rw [if_pos hr, if_pos ⟨by omega, hr.2⟩]
    · rw [if_neg hr, if_neg (by omega)]

theorem echStep_len (r : Nat) (S : ES) (col : Nat) (h : S.piv.length ≤ r) : (echStep r S col).piv.length ≤ r := by
  unfold echStep
  split
  · exact h
  · rename_i i t e
    have := spots_mem (r := r) (row := S.piv.length) (col := col) (i := i) (g := S.g) (by rw [e]; exact List.mem_cons_self)
    simp; omega
theorem ech_len (r : Nat) (f : Nat → Nat → Rat) : ∀ k, (ech r f k).piv.length ≤ r
  | 0 => Nat.zero_le _
  | k + 1 => echStep_len r _ k (ech_len r f k)

-- bounds
def ebd (K : Nat) : Nat → Nat
  | 0 => K
  | k + 1 => 4 * ebd K k + 1
theorem ebd_mono {K : Nat} : ∀ {a b : Nat}, a ≤ b → ebd K a ≤ ebd K b := by
  intro a b h
  induction h with
  | refl => exact Nat.le_refl _
  | step _ ih => rename_i m _; refine Nat.le_trans ih ?_; show ebd K m ≤ 4 * ebd K m + 1; omega
def AllBd (K r c : Nat) (g : Nat → Nat → Rat) : Prop := ∀ i, i < r → ∀ l, l < c → Bd K (g i l)
theorem AllBd.mono {K K' r c : Nat} {g : Nat → Nat → Rat} (h : AllBd K r c g) (k : K ≤ K') : AllBd K' r c g := fun i hi l hl => (h i hi l hl).mono k
theorem AllBd.swap {K r c : Nat} {g : Nat → Nat → Rat} (h : AllBd K r c g) {i j : Nat} (hi : i < r) (hj : j < r) : AllBd K r c (swapR g i j) := fun k hk l hl => by
  unfold swapR; split
  · exact h i hi l hl
  · split
    · exact h j hj l hl
    · exact h k hk l hl
theorem AllBd.div {K r c : Nat} {g : Nat → Nat → Rat} (h : AllBd K r c g) {row col : Nat} (hr : row < r) (hc : col < c) (h0 : g row col ≠ 0) : AllBd (2 * K) r c (divR g row col) := fun k hk l hl => by
  unfold divR; split
  · exact ((h row hr l hl).div (h row hr col hc) h0).mono (by omega)
  · exact (h k hk l hl).mono (by omega)
theorem divR_other {g : Nat → Nat → Rat} {row col k : Nat} (h : k ≠ row) : divR g row col k = g k := by unfold divR; rw [if_neg h]
theorem divR_row {g : Nat → Nat → Rat} {row col : Nat} : divR g row col row = fun l => g row l / g row col := by unfold divR; rw [if_pos rfl]
theorem echStep_bd {K r c col : Nat} {S : ES} (h : AllBd K r c S.g) (hc : col < c) (hl : S.piv.length ≤ r) : AllBd (4 * K + 1) r c (echStep r S col).g := by
  unfold echStep
  split
  · exact h.mono (by omega)
  · rename_i i t e
    obtain ⟨m1, m2, m3⟩ := spots_mem (r := r) (row := S.piv.length) (col := col) (i := i) (g := S.g) (by rw [e]; exact List.mem_cons_self)
    have hs := h.swap (i := S.piv.length) (j := i) (by omega) m2
    have h0 : swapR S.g S.piv.length i S.piv.length col ≠ 0 := by
      unfold swapR; split
      · rename_i e; rw [e]; exact m3
      · rw [if_pos rfl]; exact m3
    have hd := hs.div (row := S.piv.length) (by omega) hc h0
    intro k hk l hl
    unfold clrR
    simp only
    split
    · rename_i q
      rw [divR_other q.2]
      refine ((hs k hk l hl).sub ((hs k hk col hc).mul (hd _ (by omega) l hl))).mono (by omega)
    · exact (hd k hk l hl).mono (by omega)
theorem ech_bd {K r c : Nat} {f : Nat → Nat → Rat} (h : AllBd K r c f) : ∀ k, k ≤ c → AllBd (ebd K k) r c (ech r f k).g
  | 0, _ => h
  | k + 1, hk => echStep_bd (ech_bd h k (by omega)) (by omega) (ech_len r f k)

end Mine
end

section
open PySem PySem.Calls PyProof.Rows PySem.W
namespace Mine

def fdAt (K : Frag) (a : Addr) : FuncData := match K.lookup a with
  | some ⟨_, _, .func fd, _⟩ => fd
  | _ => default
def bodyOf (fd : FuncData) : List Stmt := match fd.body with
  | .stmts b => b
  | _ => []
noncomputable abbrev KK (P : Params) : Frag := hd.heap_39 P

theorem Gd.name {mg mb : Str → Option Value} {K : Frag} {h₀ : Heap} (G : Gd mg mb K h₀) {x : Str} {r : Option Value} (e : nsIn K mainGlobals x = some r) : mg x = r := by
  obtain ⟨o, es, ep, ho, hd, hk, hm⟩ := G.g
  unfold nsIn at e
  split at e
  · rename_i es' ep' _ hl
    have := G.X _ _ hl
    rw [ho] at this
    cases this
    cases hd
    rw [← hm x]
    unfold nsFind findBy
    rw [← Array.find?_toList]
    split at e
    · rename_i en hf; rw [hf]; cases e; rfl
    · rename_i hf; rw [hf]
      split at e <;> cases e
      rfl
  · cases e

/-- what the top says of a def -/
structure FnOk (P : Params) (x : Str) (f : Addr) (ps : List Str) : Prop where
  hx : nsIn (KK P) mainGlobals x = some (some (.ref f))
  ho : (KK P).lookup f = some { cls := .type "function", data := .func (fdAt (KK P) f) }
  hb : (fdAt (KK P) f).body = .stmts (bodyOf (fdAt (KK P) f))
  hcl : (fdAt (KK P) f).closure = []
  hcd : codeIn (KK P) (fdAt (KK P) f).code (fdAt (KK P) f).qualname = true
  hbind : ∀ vals : List Value, vals.length = ps.length → bindArgs (fdAt (KK P) f) ⟨vals, []⟩ = pure (ps.zip vals)
  hkind : (ps.all fun y => (fdAt (KK P) f).scope.names.lookup y == some .local || (fdAt (KK P) f).scope.names.lookup y == some .cell) = true
  hgl : (fdAt (KK P) f).globals = mainGlobals
  hbl : (fdAt (KK P) f).builtins = builtinsNs
  hco : (fdAt (KK P) f).scope.isCoroutine = false
  hgen : (fdAt (KK P) f).scope.isGenerator = false
  hk : (fdAt (KK P) f).scope.kind = .function

section
variable {mg mb : Str → Option Value} {h₀ : Heap} {prog : Program} {w : World} {n : Nat} {μ : Mu} {P : Params} {env : Env} {ρ : Str → Option V}

theorem Fn_K (G : Gd mg mb (KK P) h₀) {x : Str} {f : Addr} {ps : List Str} (O : FnOk P x f ps) {xs : List V} {Φ : V → Mu → Prop} (hlen : xs.length = ps.length)
    (h : ∀ L, Exs h₀ prog w n (callEnvC (fdAt (KK P) f) L f) (bindV (ps.zip xs) fun _ => none) μ (bodyOf (fdAt (KK P) f)) fun fl _ μ' => match fl with | .ret v => Φ v μ' | .next => Φ .none μ' | _ => False) :
    Fn h₀ prog w (n + 1) (.ref f) μ xs Φ :=
  Fn_def G O.ho rfl O.hb O.hcl O.hcd O.hbind hlen O.hkind O.hgl O.hbl O.hco O.hgen O.hk h

theorem Ev_def (G : Gd mg mb (KK P) h₀) {x : Str} {f : Addr} {ps : List Str} (O : FnOk P x f ps) {p : Pos} {e : Expr} {es : List Expr} {pos : Pos} {Φ : V → Mu → Prop}
    (hk : env.kindOf x = some .globalImplicit) (h : Evs h₀ prog w n env ρ μ pos (e :: es) fun vs μ₁ => Fn h₀ prog w n (.ref f) μ₁ vs Φ)
    (hdb : (x == ("__debug__" : Str)) = false := by decide)
    (he : eval (.Call (.Name x p) (e :: es) [] pos) env = (do callWith pos (← eval (.Name x p) env) [] (backTo pos (starEach (e :: es) env)) (backToKw pos (keywordEach [] env))) := by rfl)
    (he' : starEach (e :: es) env = (false, eval e env) :: starEach es env := by rfl) :
    Ev h₀ prog w n env ρ μ (.Call (.Name x p) (e :: es) [] pos) Φ := Ev_call G hk (G.name O.hx) O.ho rfl h hdb he he'
end

theorem ok_gcd (P : Params) : FnOk P "gcd" 41 ["a", "b"] where
  hx := by kernel_rfl
  ho := by kernel_rfl
  hb := by kernel_rfl
  hcl := by kernel_rfl
  hcd := by kernel_rfl
  hbind := fun vals hv => match vals, hv with
    | [v0, v1], _ => by kernel_rfl
  hkind := by kernel_rfl
  hgl := by kernel_rfl
  hbl := by kernel_rfl
  hco := by kernel_rfl
  hgen := by kernel_rfl
  hk := by kernel_rfl
theorem ok_rat (P : Params) : FnOk P "rat" 50 ["top", "bottom"] where
  hx := by kernel_rfl
  ho := by kernel_rfl
  hb := by kernel_rfl
  hcl := by kernel_rfl
  hcd := by kernel_rfl
  hbind := fun vals hv => match vals, hv with
    | [v0, v1], _ => by kernel_rfl
  hkind := by kernel_rfl
  hgl := by kernel_rfl
  hbl := by kernel_rfl
  hco := by kernel_rfl
  hgen := by kernel_rfl
  hk := by kernel_rfl
theorem ok_radd (P : Params) : FnOk P "radd" 57 ["a", "b"] where
  hx := by kernel_rfl
  ho := by kernel_rfl
  hb := by kernel_rfl
  hcl := by kernel_rfl
  hcd := by kernel_rfl
  hbind := fun vals hv => match vals, hv with
    | [v0, v1], _ => by kernel_rfl
  hkind := by kernel_rfl
  hgl := by kernel_rfl
  hbl := by kernel_rfl
  hco := by kernel_rfl
  hgen := by kernel_rfl
  hk := by kernel_rfl
theorem ok_rsub (P : Params) : FnOk P "rsub" 64 ["a", "b"] where
  hx := by kernel_rfl
  ho := by kernel_rfl
  hb := by kernel_rfl
  hcl := by kernel_rfl
  hcd := by kernel_rfl
  hbind := fun vals hv => match vals, hv with
    | [v0, v1], _ => by kernel_rfl
  hkind := by kernel_rfl
  hgl := by kernel_rfl
  hbl := by kernel_rfl
  hco := by kernel_rfl
  hgen := by kernel_rfl
  hk := by kernel_rfl
theorem ok_rmul (P : Params) : FnOk P "rmul" 71 ["a", "b"] where
  hx := by kernel_rfl
  ho := by kernel_rfl
  hb := by kernel_rfl
  hcl := by kernel_rfl
  hcd := by kernel_rfl
  hbind := fun vals hv => match vals, hv with
    | [v0, v1], _ => by kernel_rfl
  hkind := by kernel_rfl
  hgl := by kernel_rfl
  hbl := by kernel_rfl
  hco := by kernel_rfl
  hgen := by kernel_rfl
  hk := by kernel_rfl
theorem ok_rdiv (P : Params) : FnOk P "rdiv" 78 ["a", "b"] where
  hx := by kernel_rfl
  ho := by kernel_rfl
  hb := by kernel_rfl
  hcl := by kernel_rfl
  hcd := by kernel_rfl
  hbind := fun vals hv => match vals, hv with
    | [v0, v1], _ => by kernel_rfl
  hkind := by kernel_rfl
  hgl := by kernel_rfl
  hbl := by kernel_rfl
  hco := by kernel_rfl
  hgen := by kernel_rfl
  hk := by kernel_rfl
theorem ok_rneg (P : Params) : FnOk P "rneg" 85 ["a"] where
  hx := by kernel_rfl
  ho := by kernel_rfl
  hb := by kernel_rfl
  hcl := by kernel_rfl
  hcd := by kernel_rfl
  hbind := fun vals hv => match vals, hv with
    | [v0], _ => by kernel_rfl
  hkind := by kernel_rfl
  hgl := by kernel_rfl
  hbl := by kernel_rfl
  hco := by kernel_rfl
  hgen := by kernel_rfl
  hk := by kernel_rfl
theorem ok_shape (P : Params) : FnOk P "shape" 92 ["a"] where
  hx := by kernel_rfl
  ho := by kernel_rfl
  hb := by kernel_rfl
  hcl := by kernel_rfl
  hcd := by kernel_rfl
  hbind := fun vals hv => match vals, hv with
    | [v0], _ => by kernel_rfl
  hkind := by kernel_rfl
  hgl := by kernel_rfl
  hbl := by kernel_rfl
  hco := by kernel_rfl
  hgen := by kernel_rfl
  hk := by kernel_rfl
theorem ok_need_shape (P : Params) : FnOk P "need_shape" 99 ["is_right", "text"] where
  hx := by kernel_rfl
  ho := by kernel_rfl
  hb := by kernel_rfl
  hcl := by kernel_rfl
  hcd := by kernel_rfl
  hbind := fun vals hv => match vals, hv with
    | [v0, v1], _ => by kernel_rfl
  hkind := by kernel_rfl
  hgl := by kernel_rfl
  hbl := by kernel_rfl
  hco := by kernel_rfl
  hgen := by kernel_rfl
  hk := by kernel_rfl
theorem ok_copied (P : Params) : FnOk P "copied" 104 ["a"] where
  hx := by kernel_rfl
  ho := by kernel_rfl
  hb := by kernel_rfl
  hcl := by kernel_rfl
  hcd := by kernel_rfl
  hbind := fun vals hv => match vals, hv with
    | [v0], _ => by kernel_rfl
  hkind := by kernel_rfl
  hgl := by kernel_rfl
  hbl := by kernel_rfl
  hco := by kernel_rfl
  hgen := by kernel_rfl
  hk := by kernel_rfl
theorem ok_from_whole (P : Params) : FnOk P "from_whole" 109 ["a"] where
  hx := by kernel_rfl
  ho := by kernel_rfl
  hb := by kernel_rfl
  hcl := by kernel_rfl
  hcd := by kernel_rfl
  hbind := fun vals hv => match vals, hv with
    | [v0], _ => by kernel_rfl
  hkind := by kernel_rfl
  hgl := by kernel_rfl
  hbl := by kernel_rfl
  hco := by kernel_rfl
  hgen := by kernel_rfl
  hk := by kernel_rfl
theorem ok_unit_matrix (P : Params) : FnOk P "unit_matrix" 114 ["n"] where
  hx := by kernel_rfl
  ho := by kernel_rfl
  hb := by kernel_rfl
  hcl := by kernel_rfl
  hcd := by kernel_rfl
  hbind := fun vals hv => match vals, hv with
    | [v0], _ => by kernel_rfl
  hkind := by kernel_rfl
  hgl := by kernel_rfl
  hbl := by kernel_rfl
  hco := by kernel_rfl
  hgen := by kernel_rfl
  hk := by kernel_rfl
theorem ok_transposed (P : Params) : FnOk P "transposed" 119 ["a"] where
  hx := by kernel_rfl
  ho := by kernel_rfl
  hb := by kernel_rfl
  hcl := by kernel_rfl
  hcd := by kernel_rfl
  hbind := fun vals hv => match vals, hv with
    | [v0], _ => by kernel_rfl
  hkind := by kernel_rfl
  hgl := by kernel_rfl
  hbl := by kernel_rfl
  hco := by kernel_rfl
  hgen := by kernel_rfl
  hk := by kernel_rfl
theorem ok_dot (P : Params) : FnOk P "dot" 126 ["one", "other"] where
  hx := by kernel_rfl
  ho := by kernel_rfl
  hb := by kernel_rfl
  hcl := by kernel_rfl
  hcd := by kernel_rfl
  hbind := fun vals hv => match vals, hv with
    | [v0, v1], _ => by kernel_rfl
  hkind := by kernel_rfl
  hgl := by kernel_rfl
  hbl := by kernel_rfl
  hco := by kernel_rfl
  hgen := by kernel_rfl
  hk := by kernel_rfl
theorem ok_mat_add (P : Params) : FnOk P "mat_add" 131 ["a", "b"] where
  hx := by kernel_rfl
  ho := by kernel_rfl
  hb := by kernel_rfl
  hcl := by kernel_rfl
  hcd := by kernel_rfl
  hbind := fun vals hv => match vals, hv with
    | [v0, v1], _ => by kernel_rfl
  hkind := by kernel_rfl
  hgl := by kernel_rfl
  hbl := by kernel_rfl
  hco := by kernel_rfl
  hgen := by kernel_rfl
  hk := by kernel_rfl
theorem ok_mat_scale (P : Params) : FnOk P "mat_scale" 136 ["a", "number"] where
  hx := by kernel_rfl
  ho := by kernel_rfl
  hb := by kernel_rfl
  hcl := by kernel_rfl
  hcd := by kernel_rfl
  hbind := fun vals hv => match vals, hv with
    | [v0, v1], _ => by kernel_rfl
  hkind := by kernel_rfl
  hgl := by kernel_rfl
  hbl := by kernel_rfl
  hco := by kernel_rfl
  hgen := by kernel_rfl
  hk := by kernel_rfl
theorem ok_mat_mul (P : Params) : FnOk P "mat_mul" 141 ["a", "b"] where
  hx := by kernel_rfl
  ho := by kernel_rfl
  hb := by kernel_rfl
  hcl := by kernel_rfl
  hcd := by kernel_rfl
  hbind := fun vals hv => match vals, hv with
    | [v0, v1], _ => by kernel_rfl
  hkind := by kernel_rfl
  hgl := by kernel_rfl
  hbl := by kernel_rfl
  hco := by kernel_rfl
  hgen := by kernel_rfl
  hk := by kernel_rfl
theorem ok_trace (P : Params) : FnOk P "trace" 148 ["a"] where
  hx := by kernel_rfl
  ho := by kernel_rfl
  hb := by kernel_rfl
  hcl := by kernel_rfl
  hcd := by kernel_rfl
  hbind := fun vals hv => match vals, hv with
    | [v0], _ => by kernel_rfl
  hkind := by kernel_rfl
  hgl := by kernel_rfl
  hbl := by kernel_rfl
  hco := by kernel_rfl
  hgen := by kernel_rfl
  hk := by kernel_rfl
theorem ok_swap_rows (P : Params) : FnOk P "swap_rows" 155 ["a", "one", "other"] where
  hx := by kernel_rfl
  ho := by kernel_rfl
  hb := by kernel_rfl
  hcl := by kernel_rfl
  hcd := by kernel_rfl
  hbind := fun vals hv => match vals, hv with
    | [v0, v1, v2], _ => by kernel_rfl
  hkind := by kernel_rfl
  hgl := by kernel_rfl
  hbl := by kernel_rfl
  hco := by kernel_rfl
  hgen := by kernel_rfl
  hk := by kernel_rfl
theorem ok_take_off (P : Params) : FnOk P "take_off" 160 ["a", "row", "source", "number"] where
  hx := by kernel_rfl
  ho := by kernel_rfl
  hb := by kernel_rfl
  hcl := by kernel_rfl
  hcd := by kernel_rfl
  hbind := fun vals hv => match vals, hv with
    | [v0, v1, v2, v3], _ => by kernel_rfl
  hkind := by kernel_rfl
  hgl := by kernel_rfl
  hbl := by kernel_rfl
  hco := by kernel_rfl
  hgen := by kernel_rfl
  hk := by kernel_rfl
theorem ok_echelon (P : Params) : FnOk P "echelon" 165 ["a"] where
  hx := by kernel_rfl
  ho := by kernel_rfl
  hb := by kernel_rfl
  hcl := by kernel_rfl
  hcd := by kernel_rfl
  hbind := fun vals hv => match vals, hv with
    | [v0], _ => by kernel_rfl
  hkind := by kernel_rfl
  hgl := by kernel_rfl
  hbl := by kernel_rfl
  hco := by kernel_rfl
  hgen := by kernel_rfl
  hk := by kernel_rfl
theorem ok_charpoly (P : Params) : FnOk P "charpoly" 172 ["a"] where
  hx := by kernel_rfl
  ho := by kernel_rfl
  hb := by kernel_rfl
  hcl := by kernel_rfl
  hcd := by kernel_rfl
  hbind := fun vals hv => match vals, hv with
    | [v0], _ => by kernel_rfl
  hkind := by kernel_rfl
  hgl := by kernel_rfl
  hbl := by kernel_rfl
  hco := by kernel_rfl
  hgen := by kernel_rfl
  hk := by kernel_rfl
theorem ok_poly_of_matrix (P : Params) : FnOk P "poly_of_matrix" 179 ["polynomial", "a"] where
  hx := by kernel_rfl
  ho := by kernel_rfl
  hb := by kernel_rfl
  hcl := by kernel_rfl
  hcd := by kernel_rfl
  hbind := fun vals hv => match vals, hv with
    | [v0, v1], _ => by kernel_rfl
  hkind := by kernel_rfl
  hgl := by kernel_rfl
  hbl := by kernel_rfl
  hco := by kernel_rfl
  hgen := by kernel_rfl
  hk := by kernel_rfl
theorem ok_flat (P : Params) : FnOk P "flat" 186 ["a"] where
  hx := by kernel_rfl
  ho := by kernel_rfl
  hb := by kernel_rfl
  hcl := by kernel_rfl
  hcd := by kernel_rfl
  hbind := fun vals hv => match vals, hv with
    | [v0], _ => by kernel_rfl
  hkind := by kernel_rfl
  hgl := by kernel_rfl
  hbl := by kernel_rfl
  hco := by kernel_rfl
  hgen := by kernel_rfl
  hk := by kernel_rfl
theorem ok_minpoly (P : Params) : FnOk P "minpoly" 193 ["a"] where
  hx := by kernel_rfl
  ho := by kernel_rfl
  hb := by kernel_rfl
  hcl := by kernel_rfl
  hcd := by kernel_rfl
  hbind := fun vals hv => match vals, hv with
    | [v0], _ => by kernel_rfl
  hkind := by kernel_rfl
  hgl := by kernel_rfl
  hbl := by kernel_rfl
  hco := by kernel_rfl
  hgen := by kernel_rfl
  hk := by kernel_rfl
theorem ok_dependence (P : Params) : FnOk P "dependence" 200 ["rows"] where
  hx := by kernel_rfl
  ho := by kernel_rfl
  hb := by kernel_rfl
  hcl := by kernel_rfl
  hcd := by kernel_rfl
  hbind := fun vals hv => match vals, hv with
    | [v0], _ => by kernel_rfl
  hkind := by kernel_rfl
  hgl := by kernel_rfl
  hbl := by kernel_rfl
  hco := by kernel_rfl
  hgen := by kernel_rfl
  hk := by kernel_rfl
theorem ok_law_take (P : Params) : FnOk P "_law_take" 207 ["box", "many"] where
  hx := by kernel_rfl
  ho := by kernel_rfl
  hb := by kernel_rfl
  hcl := by kernel_rfl
  hcd := by kernel_rfl
  hbind := fun vals hv => match vals, hv with
    | [v0, v1], _ => by kernel_rfl
  hkind := by kernel_rfl
  hgl := by kernel_rfl
  hbl := by kernel_rfl
  hco := by kernel_rfl
  hgen := by kernel_rfl
  hk := by kernel_rfl
theorem ok_law_told (P : Params) : FnOk P "_law_told" 214 ["work"] where
  hx := by kernel_rfl
  ho := by kernel_rfl
  hb := by kernel_rfl
  hcl := by kernel_rfl
  hcd := by kernel_rfl
  hbind := fun vals hv => match vals, hv with
    | [v0], _ => by kernel_rfl
  hkind := by kernel_rfl
  hgl := by kernel_rfl
  hbl := by kernel_rfl
  hco := by kernel_rfl
  hgen := by kernel_rfl
  hk := by kernel_rfl
theorem no_abs (P : Params) : nsIn (KK P) mainGlobals "abs" = some none := by kernel_rfl
theorem no_len (P : Params) : nsIn (KK P) mainGlobals "len" = some none := by kernel_rfl
theorem no_range (P : Params) : nsIn (KK P) mainGlobals "range" = some none := by kernel_rfl
theorem no_enumerate (P : Params) : nsIn (KK P) mainGlobals "enumerate" = some none := by kernel_rfl
theorem no_list (P : Params) : nsIn (KK P) mainGlobals "list" = some none := by kernel_rfl
end Mine
end

section
open PySem PySem.Calls PyProof.Rows PySem.W
namespace Mine

section
variable {mg mb : Str → Option Value} {K : Frag} {h₀ : Heap} {prog : Program} {w : World} {n : Nat} {μ : Mu}
theorem Ev_idx0 {env : Env} {ρ : Str → Option V} {Φ : V → Mu → Prop} {l : Expr} {k : Nat} {p pos : Pos} (h : Ev h₀ prog w n env ρ μ l fun v μ₁ => ∃ xs x, seqOf μ₁ v = some xs ∧ xs[0]? = some x ∧ Φ x μ₁) : Ev h₀ prog w n env ρ μ (.Subscript l (.Constant (.int 0) k p) pos) Φ :=
  Ev_item (h.mono fun v μ₁ ⟨xs, x, e, hx, p⟩ => Ev_int ⟨xs, 0, x, rfl, e, hx, by decide, p⟩)
theorem Ev_idx1 {env : Env} {ρ : Str → Option V} {Φ : V → Mu → Prop} {l : Expr} {k : Nat} {p pos : Pos} (h : Ev h₀ prog w n env ρ μ l fun v μ₁ => ∃ xs x, seqOf μ₁ v = some xs ∧ xs[1]? = some x ∧ Φ x μ₁) : Ev h₀ prog w n env ρ μ (.Subscript l (.Constant (.int 1) k p) pos) Φ :=
  Ev_item (h.mono fun v μ₁ ⟨xs, x, e, hx, p⟩ => Ev_int ⟨xs, 1, x, rfl, e, hx, by decide, p⟩)
theorem ratSeq {q : Rat} : seqOf μ (ratV q) = some [.int q.num, .int (q.den : Int)] := rfl
end
local macro_rules
  | `(tactic| k_units) => `(tactic| repeat (first
    | with_reducible refine Ev_bin ?_
    | with_reducible refine Evs_cons ?_ (by kernel_rfl)
    | with_reducible refine Evs_nil ?_
    | with_reducible refine Ev_idx0 ?_
    | with_reducible refine Ev_idx1 ?_
    | with_reducible refine ⟨_, _, rfl, rfl, ?_⟩
    | ((with_reducible refine' Ev_name ?hk ?hv ?_ (by kernel_rfl) (by kernel_rfl)); (case hk => kernel_rfl); (case hv => exact rfl))
    | with_reducible refine Ev_int ?_
    | with_reducible refine Ev_tuple ?_
    | with_reducible refine Exs_cons ?_
    | with_reducible refine Ex_ret ?_
    | with_reducible refine Ev_cmp ?_ (by kernel_rfl)
    | with_reducible refine Ts_cmp ?_ (by kernel_rfl)
    | with_reducible refine Ex_if ?_
    | with_reducible refine op_add ?_
    | with_reducible refine op_sub ?_))

section
variable {mg mb : Str → Option Value} {h₀ : Heap} {prog : Program} {w : World} {n : Nat} {μ : Mu} {P : Params}

theorem natgcd_mod (x y : Nat) : Nat.gcd y (x % y) = Nat.gcd x y := by
  rw [Nat.gcd_comm y, Nat.gcd_comm x, Nat.gcd_rec y x]

theorem fn_gcd (G : Gd mg mb (KK P) h₀) {a b : Int} {Φ : V → Mu → Prop} (h : Φ (.int (Int.gcd a b)) μ) : Fn h₀ prog w (n + 1) (.ref 41) μ [.int a, .int b] Φ := by
  refine Fn_K G (ok_gcd P) rfl fun L => ?_
  refine Exs_cons (Ex_assign2s (x := "a") (y := "b") rfl rfl ?_)
  refine Ev_tuple (Evs_cons (Ev_callB G rfl (G.name (no_abs P)) Boot.«abs» (Evs_cons (Ev_name rfl rfl (Evs_nil (fn_abs ?_))))))
  refine Evs_cons (Ev_callB G rfl (G.name (no_abs P)) Boot.«abs» (Evs_cons (Ev_name rfl rfl (Evs_nil (fn_abs ?_)))))
  refine Evs_nil ⟨by simp, _, _, rfl, ?_⟩
  refine Exs_cons (Ex_while (fun m ρ' μ' => ∃ x y : Nat, ρ' "a" = some (.int x) ∧ ρ' "b" = some (.int y) ∧ Nat.gcd x y = Int.gcd a b ∧ y = m ∧ μ' = μ) b.natAbs ⟨a.natAbs, b.natAbs, rfl, rfl, rfl, rfl, rfl⟩ ?_)
  rintro m ρ' μ' ⟨x, y, ha, hb, hg, rfl, rfl⟩
  refine Ts_cmp (Ev_name rfl hb (Ev_int (op_ne ⟨_, rfl, fun e => ?_, fun e => ?_⟩)))
  · have hy : y ≠ 0 := by intro h0; subst h0; simp at e
    refine Exs_cons (Ex_assign2s (x := "a") (y := "b") rfl rfl ?_)
    refine Ev_tuple (Evs_cons (Ev_name rfl hb (Evs_cons (Ev_bin (Ev_name rfl ha (Ev_name rfl hb (op_mod (by omega) ?_)))))))
    refine Evs_nil ⟨by simp, _, _, rfl, Exs_nil ⟨x % y, Nat.mod_lt _ (by omega), y, x % y, rfl, ?_, ?_, rfl, rfl⟩⟩
    · have : (x : Int).fmod y = ((x % y : Nat) : Int) := by
        rw [Int.fmod_eq_emod_of_nonneg _ (by omega)]; rfl
      rw [← this]; rfl
    · rw [natgcd_mod]; exact hg
  · have hy : y = 0 := by
      have : (y : Int) = 0 := by simpa using e
      omega
    subst hy
    refine Exs_cons (Ex_ret (Ev_name rfl ha ?_))
    rw [Nat.gcd_zero_right] at hg
    rw [hg]; exact h

theorem fn_rat (G : Gd mg mb (KK P) h₀) (ht : prog.given.tree = none) {a b : Int} (hb : b ≠ 0) {Φ : V → Mu → Prop} (h : Φ (ratV (Rat.divInt a b)) μ) : Fn h₀ prog w (n + 2) (.ref 50) μ [.int a, .int b] Φ := by
  have hn := rat_norm a b hb
  have hg0 : (Int.gcd a b : Int) ≠ 0 := by
    intro e
    have : Int.gcd a b = 0 := by omega
    exact hb (Int.gcd_eq_zero_iff.mp this).2
  refine Fn_K G (ok_rat P) rfl fun L => ?_
  refine Exs_cons ?_
  k_units
  refine op_eq ⟨_, rfl, fun e => absurd (by simpa using e) hb, fun _ => Exs_nil ?_⟩
  refine Exs_cons (Ex_assign (x := "g") rfl (Ev_if ?_))
  k_units
  refine op_gt ⟨_, rfl, fun e => ?_, fun e => ?_⟩
  · rw [if_pos (by simpa using e)] at hn
    refine Ev_def G (ok_gcd P) (by kernel_rfl) ?_ (by kernel_rfl) (by kernel_rfl) (by kernel_rfl)
    k_units
    refine fn_gcd G ?_
    k_units
    refine op_fdiv G ht hg0 ?_
    k_units
    refine op_fdiv G ht hg0 ?_
    k_units
    rw [hn.1, hn.2]; exact ⟨by simp, h⟩
  · rw [if_neg (by simpa using e)] at hn
    have hg : (0 - (Int.gcd a b : Int)) ≠ 0 := by omega
    k_units
    refine Ev_def G (ok_gcd P) (by kernel_rfl) ?_ (by kernel_rfl) (by kernel_rfl) (by kernel_rfl)
    k_units
    refine fn_gcd G ?_
    k_units
    refine op_fdiv G ht hg ?_
    k_units
    refine op_fdiv G ht hg ?_
    k_units
    rw [hn.1, hn.2]; exact ⟨by simp, h⟩

theorem den_ne (q : Rat) : (q.den : Int) ≠ 0 := by have := q.den_nz; omega

theorem natAbs_den {k : Nat} {q : Rat} (h : Bd k q) : ((q.den : Int)).natAbs < 2 ^ k := by simpa using h.2

theorem fn_radd (G : Gd mg mb (KK P) h₀) (ht : prog.given.tree = none) {j k : Nat} {p q : Rat} (hp : Bd j p) (hq : Bd k q) (hjk : j + k ≤ 2 ^ 26) {Φ : V → Mu → Prop} (h : Φ (ratV (p + q)) μ) : Fn h₀ prog w (n + 3) (.ref 57) μ [ratV p, ratV q] Φ := by
  refine Fn_K G (ok_radd P) rfl fun L => ?_
  refine Exs_cons ?_
  k_units
  refine Ev_def G (ok_rat P) (by kernel_rfl) ?_ (by kernel_rfl) (by kernel_rfl) (by kernel_rfl)
  k_units
  refine op_mul (mulOk hp.1 (natAbs_den hq) hjk) ?_
  k_units
  refine op_mul (mulOk hq.1 (natAbs_den hp) (by omega)) ?_
  k_units
  refine op_mul (mulOk (natAbs_den hp) (natAbs_den hq) hjk) ?_
  k_units
  refine fn_rat G ht (Int.mul_ne_zero (den_ne p) (den_ne q)) ?_
  rw [← add_eq_divInt]; exact h
theorem fn_rsub (G : Gd mg mb (KK P) h₀) (ht : prog.given.tree = none) {j k : Nat} {p q : Rat} (hp : Bd j p) (hq : Bd k q) (hjk : j + k ≤ 2 ^ 26) {Φ : V → Mu → Prop} (h : Φ (ratV (p - q)) μ) : Fn h₀ prog w (n + 3) (.ref 64) μ [ratV p, ratV q] Φ := by
  refine Fn_K G (ok_rsub P) rfl fun L => ?_
  refine Exs_cons ?_
  k_units
  refine Ev_def G (ok_rat P) (by kernel_rfl) ?_ (by kernel_rfl) (by kernel_rfl) (by kernel_rfl)
  k_units
  refine op_mul (mulOk hp.1 (natAbs_den hq) hjk) ?_
  k_units
  refine op_mul (mulOk hq.1 (natAbs_den hp) (by omega)) ?_
  k_units
  refine op_mul (mulOk (natAbs_den hp) (natAbs_den hq) hjk) ?_
  k_units
  refine fn_rat G ht (Int.mul_ne_zero (den_ne p) (den_ne q)) ?_
  rw [← sub_eq_divInt]; exact h
theorem fn_rmul (G : Gd mg mb (KK P) h₀) (ht : prog.given.tree = none) {j k : Nat} {p q : Rat} (hp : Bd j p) (hq : Bd k q) (hjk : j + k ≤ 2 ^ 26) {Φ : V → Mu → Prop} (h : Φ (ratV (p * q)) μ) : Fn h₀ prog w (n + 3) (.ref 71) μ [ratV p, ratV q] Φ := by
  refine Fn_K G (ok_rmul P) rfl fun L => ?_
  refine Exs_cons ?_
  k_units
  refine Ev_def G (ok_rat P) (by kernel_rfl) ?_ (by kernel_rfl) (by kernel_rfl) (by kernel_rfl)
  k_units
  refine op_mul (mulOk hp.1 hq.1 hjk) ?_
  k_units
  refine op_mul (mulOk (natAbs_den hp) (natAbs_den hq) hjk) ?_
  k_units
  refine fn_rat G ht (Int.mul_ne_zero (den_ne p) (den_ne q)) ?_
  rw [← mul_eq_divInt]; exact h
theorem fn_rdiv (G : Gd mg mb (KK P) h₀) (ht : prog.given.tree = none) {j k : Nat} {p q : Rat} (hp : Bd j p) (hq : Bd k q) (h0 : q ≠ 0) (hjk : j + k ≤ 2 ^ 26) {Φ : V → Mu → Prop} (h : Φ (ratV (p / q)) μ) : Fn h₀ prog w (n + 3) (.ref 78) μ [ratV p, ratV q] Φ := by
  have hn : q.num ≠ 0 := by rwa [ne_eq, Rat.num_eq_zero]
  refine Fn_K G (ok_rdiv P) rfl fun L => ?_
  refine Exs_cons ?_
  k_units
  refine Ev_def G (ok_rat P) (by kernel_rfl) ?_ (by kernel_rfl) (by kernel_rfl) (by kernel_rfl)
  k_units
  refine op_mul (mulOk hp.1 (natAbs_den hq) hjk) ?_
  k_units
  refine op_mul (mulOk (natAbs_den hp) hq.1 hjk) ?_
  k_units
  refine fn_rat G ht (Int.mul_ne_zero (den_ne p) hn) ?_
  rw [← div_eq_divInt]; exact h
theorem fn_rneg (G : Gd mg mb (KK P) h₀) {p : Rat} {Φ : V → Mu → Prop} (h : Φ (ratV (-p)) μ) : Fn h₀ prog w (n + 1) (.ref 85) μ [ratV p] Φ := by
  refine Fn_K G (ok_rneg P) rfl fun L => ?_
  refine Exs_cons ?_
  k_units
  refine ⟨by simp, ?_⟩
  have e : V.tup [.int (0 - p.num), .int (p.den : Int)] = ratV (-p) := by unfold ratV; rw [Rat.neg_num, Rat.neg_den]; simp
  rw [e]; exact h
end
end Mine
end

section
open PySem PySem.Calls PyProof.Rows PySem.W
namespace Mine

def rowF (c : Nat) (v : Nat → Rat) : V := .lst ((List.range c).map fun j => ratV (v j))
def matF (r c : Nat) (f : Nat → Nat → Rat) : V := .lst ((List.range r).map fun i => rowF c (f i))
def sumTo : Nat → (Nat → Rat) → Rat
  | 0, _ => 0
  | n + 1, f => sumTo n f + f n

theorem range_get {α : Type} {f : Nat → α} {m i : Nat} (h : i < m) : ((List.range m).map f)[i]? = some (f i) := by simp [h]
theorem range_get' {α : Type} {f : Nat → α} {m i : Nat} {x : α} (h : ((List.range m).map f)[i]? = some x) : i < m ∧ x = f i := by
  have hi : i < m := by simpa using (List.getElem?_eq_some_iff.mp h).1
  rw [range_get hi] at h; cases h; exact ⟨hi, rfl⟩

theorem Bd.sumTo {b : Nat} {f : Nat → Rat} : ∀ {n : Nat}, (∀ k, k < n → Bd b (f k)) → Bd (1 + n * (b + 1)) (sumTo n f)
  | 0, _ => by simpa [Mine.sumTo] using Bd.zero (k := 1) (by omega)
  | n + 1, h => by
    have := (Bd.sumTo (n := n) fun k hk => h k (by omega)).add (h n (by omega))
    exact this.mono (by rw [Nat.add_mul]; omega)

local macro_rules
  | `(tactic| k_units) => `(tactic| repeat (first
    | with_reducible refine Ev_bin ?_
    | with_reducible refine Evs_cons ?_ (by kernel_rfl)
    | with_reducible refine Evs_nil ?_
    | with_reducible refine Ev_idx0 ?_
    | with_reducible refine Ev_idx1 ?_
    | with_reducible refine ⟨_, _, rfl, rfl, ?_⟩
    | ((with_reducible refine' Ev_name ?hk ?hv ?_ (by kernel_rfl) (by kernel_rfl)); (case hk => kernel_rfl); (case hv => exact rfl))
    | with_reducible refine Ev_int ?_
    | with_reducible refine Ev_tuple ?_
    | with_reducible refine Exs_cons ?_
    | with_reducible refine Ex_ret ?_
    | with_reducible refine Ev_cmp ?_ (by kernel_rfl)
    | with_reducible refine Ts_cmp ?_ (by kernel_rfl)
    | with_reducible refine Ex_if ?_
    | with_reducible refine op_add ?_
    | with_reducible refine op_sub ?_))

section
variable {mg mb : Str → Option Value} {h₀ : Heap} {prog : Program} {w : World} {n : Nat} {μ : Mu} {P : Params} {env : Env} {ρ : Str → Option V}

theorem Ev_len (G : Gd mg mb (KK P) h₀) {p : Pos} {e : Expr} {pos : Pos} {Φ : V → Mu → Prop}
    (hk : env.kindOf "len" = some .globalImplicit) (h : Ev h₀ prog w n env ρ μ e fun v μ' => ∃ l, seqOf μ' v = some l ∧ l.length ≤ 2 ^ 24 ∧ Φ (.int l.length) μ')
    (he : eval (.Call (.Name "len" p) [e] [] pos) env = (do callWith pos (← eval (.Name "len" p) env) [] (backTo pos (starEach [e] env)) (backToKw pos (keywordEach [] env))) := by rfl)
    (he' : starEach [e] env = (false, eval e env) :: starEach [] env := by rfl) :
    Ev h₀ prog w n env ρ μ (.Call (.Name "len" p) [e] [] pos) Φ :=
  Ev_callB G hk (G.name (no_len P)) Boot.«len» (Evs_cons (h.mono fun _ _ ⟨_, e, hl, p⟩ => Evs_nil (fn_len e hl p)) he') (he := he) (he' := he') (hp := rfl)

theorem fn_shape (G : Gd mg mb (KK P) h₀) {r c : Nat} {f : Nat → V} (hr : 0 < r) (hr' : r ≤ 2 ^ 24) (hc : c ≤ 2 ^ 24) {v : V} {l : List V} (hv : seqOf μ v = some l) (hl : l.length = r) {l0 : List V} (h0 : l[0]? = some (.lst l0)) (hl0 : l0.length = c)
    {Φ : V → Mu → Prop} (h : Φ (.tup [.int r, .int c]) μ) : Fn h₀ prog w (n + 1) (.ref 92) μ [v] Φ := by
  refine Fn_K G (ok_shape P) rfl fun L => ?_
  refine Exs_cons ?_
  refine Ex_ret (Ev_tuple ?_)
  refine Evs_cons ?_ (by kernel_rfl)
  refine Ev_len G (by kernel_rfl) ?_ (by kernel_rfl) (by kernel_rfl)
  k_units
  refine ⟨l, hv, by omega, ?_⟩
  refine Evs_cons (Ev_if ?_) (by kernel_rfl)
  refine Ts_cmp ?_ (by kernel_rfl)
  refine Ev_len G (by kernel_rfl) ?_ (by kernel_rfl) (by kernel_rfl)
  k_units
  refine ⟨l, hv, by omega, ?_⟩
  k_units
  refine op_gt ⟨_, rfl, fun _ => ?_, fun e => ?_⟩
  · refine Ev_len G (by kernel_rfl) ?_ (by kernel_rfl) (by kernel_rfl)
    refine Ev_idx0 ?_
    k_units
    refine ⟨l, _, hv, h0, l0, rfl, by omega, Evs_nil ⟨by simp, ?_⟩⟩
    rw [hl, hl0]; exact h
  · have : ¬ (0 : Int) < l.length := by simpa using e
    omega

theorem fn_need (G : Gd mg mb (KK P) h₀) {x : V} {Φ : V → Mu → Prop} (h : Φ .none μ) : Fn h₀ prog w (n + 1) (.ref 99) μ [.bool true, x] Φ := by
  refine Fn_K G (ok_need_shape P) rfl fun L => ?_
  refine Exs_cons (Ex_if (Ts_not (Ts_val ?_ (by kernel_rfl))))
  k_units
  exact ⟨true, rfl, fun e => (nomatch e), fun _ => Exs_nil (Exs_nil h)⟩

theorem matF_seq {r c : Nat} {f : Nat → Nat → Rat} : seqOf μ (matF r c f) = some ((List.range r).map fun i => rowF c (f i)) := rfl
theorem rowF_seq {c : Nat} {v : Nat → Rat} : seqOf μ (rowF c v) = some ((List.range c).map fun j => ratV (v j)) := rfl

theorem fn_shapeF (G : Gd mg mb (KK P) h₀) {r c : Nat} {f : Nat → Nat → Rat} (hr : 0 < r) (hr' : r ≤ 2 ^ 24) (hc : c ≤ 2 ^ 24) {Φ : V → Mu → Prop} (h : Φ (.tup [.int r, .int c]) μ) : Fn h₀ prog w (n + 1) (.ref 92) μ [matF r c f] Φ :=
  fn_shape (f := fun _ => .none) (r := r) (c := c) G hr hr' hc matF_seq (by simp) (l0 := (List.range c).map fun j => ratV (f 0 j)) (by rw [range_get hr]; rfl) (by simp) h

-- R0, R1
theorem rep_R0 (G : Gd mg mb (KK P) h₀) : Rep (fun _ => False) h₀ (ratV 0) (.ref 42) :=
  ⟨42, #[.int 0 232, .int 1 233], 0, rfl, id, G.X 42 _ (by kernel_rfl), Reps.cons ⟨_, rfl⟩ (Reps.cons ⟨_, rfl⟩ Reps.nil)⟩
theorem rep_R1 (G : Gd mg mb (KK P) h₀) : Rep (fun _ => False) h₀ (ratV 1) (.ref 43) :=
  ⟨43, #[.int 1 235, .int 1 236], 0, rfl, id, G.X 43 _ (by kernel_rfl), Reps.cons ⟨_, rfl⟩ (Reps.cons ⟨_, rfl⟩ Reps.nil)⟩
theorem Ev_R0 (G : Gd mg mb (KK P) h₀) {pos : Pos} {Φ : V → Mu → Prop} (hk : env.kindOf "R0" = some .globalImplicit) (h : Φ (ratV 0) μ) : Ev h₀ prog w n env ρ μ (.Name "R0" pos) Φ :=
  Ev_top G hk (G.name (x := "R0") (r := some (.ref 42)) (by kernel_rfl)) (rep_R0 G) h
theorem Ev_R1 (G : Gd mg mb (KK P) h₀) {pos : Pos} {Φ : V → Mu → Prop} (hk : env.kindOf "R1" = some .globalImplicit) (h : Φ (ratV 1) μ) : Ev h₀ prog w n env ρ μ (.Name "R1" pos) Φ :=
  Ev_top G hk (G.name (x := "R1") (r := some (.ref 43)) (by kernel_rfl)) (rep_R1 G) h

theorem fn_dot (G : Gd mg mb (KK P) h₀) (ht : prog.given.tree = none) {c ja jb : Nat} {u v : Nat → Rat} (hu : ∀ k, k < c → Bd ja (u k)) (hv : ∀ k, k < c → Bd jb (v k)) (hb : 1 + c * (ja + jb + 1) + (ja + jb) ≤ 2 ^ 26) (hc : c ≤ 2 ^ 24)
    {Φ : V → Mu → Prop} (h : Φ (ratV (sumTo c fun k => u k * v k)) μ) : Fn h₀ prog w (n + 4) (.ref 126) μ [rowF c u, rowF c v] Φ := by
  refine Fn_K G (ok_dot P) rfl fun L => ?_
  refine Exs_cons (Ex_assign (x := "found") (by kernel_rfl) (Ev_R0 G (by kernel_rfl) ?_) (by kernel_rfl))
  refine Exs_cons (Ex_for ?_)
  refine It_enum G (by kernel_rfl) (G.name (no_enumerate P)) Boot.«enumerate» ?_ (by decide) (by kernel_rfl) (by kernel_rfl) (by kernel_rfl)
  k_units
  refine ⟨_, rfl, fun k ρ' μ' => μ' = μ ∧ ρ' "found" = some (ratV (sumTo k fun k => u k * v k)) ∧ ρ' "one" = some (rowF c u) ∧ ρ' "other" = some (rowF c v), ⟨rfl, rfl, rfl, rfl⟩, ?_, ?_, ?_⟩
  · rintro k ρ' μ' ⟨rfl, _⟩; rfl
  · rintro k x ρ' μ' hx ⟨rfl, hf, ho, hov⟩
    obtain ⟨y, hy, rfl⟩ := enumV_get hx
    obtain ⟨hk, rfl⟩ := range_get' hy
    refine ⟨_, Asg.pair trivial trivial (by kernel_rfl) (by kernel_rfl), ?_⟩
    refine Exs_cons (Ex_assign (x := "found") (by kernel_rfl) ?_ (by kernel_rfl))
    refine Ev_def G (ok_radd P) (by kernel_rfl) ?_ (by kernel_rfl) (by kernel_rfl) (by kernel_rfl)
    refine Evs_cons (Ev_name (by kernel_rfl) hf ?_) (by kernel_rfl)
    refine Evs_cons ?_ (by kernel_rfl)
    refine Ev_def G (ok_rmul P) (by kernel_rfl) ?_ (by kernel_rfl) (by kernel_rfl) (by kernel_rfl)
    k_units
    refine Ev_item (Ev_name (by kernel_rfl) hov (Ev_name (by kernel_rfl) rfl ⟨_, k, _, rfl, rowF_seq, range_get hk, by omega, ?_⟩)) (by with_unfolding_all (intros; rfl))
    k_units
    refine fn_rmul G ht (hu k hk) (hv k hk) (by omega) ?_
    k_units
    have hkc : k * (ja + jb + 1) ≤ c * (ja + jb + 1) := Nat.mul_le_mul_right _ (by omega)
    refine fn_radd G ht (Bd.sumTo (b := ja + jb) fun i hi => (hu i (by omega)).mul (hv i (by omega))) ((hu k hk).mul (hv k hk)) (by omega) ?_
    exact Exs_nil ⟨rfl, rfl, ho, hov⟩
  · rintro ρ' μ' ⟨rfl, hf, _⟩
    refine Exs_cons (Ex_ret (Ev_name (by kernel_rfl) hf ?_))
    rw [enumV_length] at *
    simpa using h

theorem fn_trace (G : Gd mg mb (KK P) h₀) (ht : prog.given.tree = none) {c ja : Nat} {f : Nat → Nat → Rat} (hf : ∀ k, k < c → Bd ja (f k k)) (hb : 1 + c * (ja + 1) + ja ≤ 2 ^ 26) (hc : c ≤ 2 ^ 24)
    {Φ : V → Mu → Prop} (h : Φ (ratV (sumTo c fun k => f k k)) μ) : Fn h₀ prog w (n + 4) (.ref 148) μ [matF c c f] Φ := by
  refine Fn_K G (ok_trace P) rfl fun L => ?_
  refine Exs_cons (Ex_assign (x := "found") (by kernel_rfl) (Ev_R0 G (by kernel_rfl) ?_) (by kernel_rfl))
  refine Exs_cons (Ex_for ?_)
  refine It_range1 G (by kernel_rfl) (by kernel_rfl) (G.name (no_range P)) Boot.«range» ?_ (by decide) (by kernel_rfl) (by kernel_rfl) (by kernel_rfl)
  refine Ev_len G (by kernel_rfl) ?_ (by kernel_rfl) (by kernel_rfl)
  k_units
  refine ⟨_, matF_seq, by simpa using hc, c, by simp, hc, fun k ρ' μ' => μ' = μ ∧ ρ' "found" = some (ratV (sumTo k fun k => f k k)) ∧ ρ' "a" = some (matF c c f), ⟨rfl, rfl, rfl⟩, ?_, ?_, ?_⟩
  · rintro k ρ' μ' ⟨rfl, _⟩; rfl
  · rintro k x ρ' μ' hx ⟨rfl, hf', ha⟩
    obtain ⟨hk, rfl⟩ := rangeV_get hx
    refine ⟨_, Asg.name trivial (by kernel_rfl), ?_⟩
    refine Exs_cons (Ex_assign (x := "found") (by kernel_rfl) ?_ (by kernel_rfl))
    refine Ev_def G (ok_radd P) (by kernel_rfl) ?_ (by kernel_rfl) (by kernel_rfl) (by kernel_rfl)
    refine Evs_cons (Ev_name (by kernel_rfl) hf' ?_) (by kernel_rfl)
    refine Evs_cons ?_ (by kernel_rfl)
    refine Ev_item (Ev_item (Ev_name (by kernel_rfl) ha (Ev_name (by kernel_rfl) rfl ⟨_, k, _, by simp, matF_seq, range_get hk, by omega, Ev_name (by kernel_rfl) rfl ⟨_, k, _, by simp, rowF_seq, range_get hk, by omega, ?_⟩⟩)) (by with_unfolding_all (intros; rfl))) (by with_unfolding_all (intros; rfl))
    k_units
    have hkc : k * (ja + 1) ≤ c * (ja + 1) := Nat.mul_le_mul_right _ (by omega)
    refine fn_radd G ht (Bd.sumTo (b := ja) fun i hi => hf i (by omega)) (hf k hk) (by omega) ?_
    exact Exs_nil ⟨rfl, rfl, ha⟩
  · rintro ρ' μ' ⟨rfl, hf', _⟩
    refine Exs_cons (Ex_ret (Ev_name (by kernel_rfl) hf' ?_))
    rw [rangeV_length] at *
    exact h

def scopeChk (scope : Scope) (own : List Str) (env : Env) : Bool :=
  decide (scope.kind = .function) && decide (scope.names.filter (fun p => p.2 == .cell) = own.map fun x => (x, .cell)) && decide (own.length ≤ 1) && own.all (fun y => decide (scope.names.lookup y = some .cell)) &&
    scope.names.all (fun p => decide (p.2 ≠ .free) || decide (env.kindOf p.1 = some .cell)) && scope.names.all (fun p => decide (p.2 ≠ .local) || decide (scope.names.lookup p.1 = some .local))
theorem ScopeOk.of {scope : Scope} {own : List Str} {env : Env} (h : scopeChk scope own env = true) : ScopeOk scope own env := by
  unfold scopeChk at h
  simp only [Bool.and_eq_true, decide_eq_true_eq, List.all_eq_true, Bool.or_eq_true] at h
  obtain ⟨⟨⟨⟨⟨h1, h2⟩, h3⟩, h4⟩, h5⟩, h6⟩ := h
  exact ⟨h1, h2, h3, h4, fun y hy => (h5 _ hy).resolve_left (fun e => e rfl), fun p hp e => (h6 p hp).resolve_left (fun e' => e' e)⟩

theorem upd_sub {scope : Scope} {ρ : Str → Option V} {a : Str} {x : V} (h : (scope.names.lookup a == some .free) = false) : ∀ y v, subR scope ρ y = some v → upd (subR scope ρ) a x y = some v := fun y v e => by
  have : y ≠ a := fun e' => by subst e'; rw [(subR_some e).1] at h; simp at h
  simp [upd, this, e]
theorem upd_sub2 {scope : Scope} {ρ : Str → Option V} {a b : Str} {x z : V} (h : (scope.names.lookup a == some .free) = false) (h' : (scope.names.lookup b == some .free) = false) : ∀ y v, subR scope ρ y = some v → upd (upd (subR scope ρ) a x) b z y = some v := fun y v e => by
  have h1 : y ≠ a := fun e' => by subst e'; rw [(subR_some e).1] at h; simp at h
  have h2 : y ≠ b := fun e' => by subst e'; rw [(subR_some e).1] at h'; simp at h'
  simp [upd, h1, h2, e]
theorem notFree {scope : Scope} {a : Str} (h : (scope.names.lookup a == some .free) = false) : scope.names.lookup a ≠ some .free := fun e => by rw [e] at h; simp at h

/-- mat_scale -/
theorem fn_scale (G : Gd mg mb (KK P) h₀) (ht : prog.given.tree = none) {r c j k : Nat} {f : Nat → Nat → Rat} {q : Rat} (hf : ∀ i, i < r → ∀ l, l < c → Bd j (f i l)) (hq : Bd k q) (hb : j + k ≤ 2 ^ 26) (hr : r ≤ 2 ^ 24) (hc : c ≤ 2 ^ 24)
    {Φ : V → Mu → Prop} (h : Φ (matF r c fun i l => f i l * q) μ) : Fn h₀ prog w (n + 4) (.ref 136) μ [matF r c f, ratV q] Φ := by
  refine Fn_K G (ok_mat_scale P) rfl fun L => ?_
  refine Exs_cons (Ex_ret (Ev_comp (own := []) (ScopeOk.of (by kernel_rfl)) (It_list (by kernel_rfl) ?_)))
  k_units
  refine ⟨_, rfl, by simpa using hr, (List.range r).map fun i => rowF c fun l => f i l * q, by simp, ?_, h⟩
  rintro C cells i x y hx hy
  obtain ⟨hi, rfl⟩ := range_get' hx
  obtain ⟨_, rfl⟩ := range_get' hy
  refine ⟨_, Asg.name (notFree (by kernel_rfl)) (by kernel_rfl), upd_sub (by kernel_rfl), fun μD _ => ?_⟩
  refine Ev_comp (own := []) (ScopeOk.of (by kernel_rfl)) (It_list (by kernel_rfl) ?_)
  k_units
  refine ⟨_, rfl, by simpa using hc, (List.range c).map fun l => ratV (f i l * q), by simp, ?_, rfl, rfl⟩
  rintro C cells l x y hx hy
  obtain ⟨hl, rfl⟩ := range_get' hx
  obtain ⟨_, rfl⟩ := range_get' hy
  refine ⟨_, Asg.name (notFree (by kernel_rfl)) (by kernel_rfl), upd_sub (by kernel_rfl), fun μE _ => ?_⟩
  refine Ev_def G (ok_rmul P) (by kernel_rfl) ?_ (by kernel_rfl) (by kernel_rfl) (by kernel_rfl)
  k_units
  exact fn_rmul G ht (hf i hi l hl) hq hb ⟨rfl, rfl⟩
end

end Mine
end

section
open PySem PySem.Calls PyProof.Rows PySem.W
namespace Mine

local macro_rules
  | `(tactic| k_units) => `(tactic| repeat (first
    | with_reducible refine Ev_bin ?_
    | with_reducible refine Evs_cons ?_ (by kernel_rfl)
    | with_reducible refine Evs_nil ?_
    | with_reducible refine Ev_idx0 ?_
    | with_reducible refine Ev_idx1 ?_
    | with_reducible refine ⟨_, _, rfl, rfl, ?_⟩
    | ((with_reducible refine' Ev_name ?hk ?hv ?_ (by kernel_rfl) (by kernel_rfl)); (case hk => kernel_rfl); (case hv => exact rfl))
    | with_reducible refine Ev_int ?_
    | with_reducible refine Ev_tuple ?_
    | with_reducible refine Exs_cons ?_
    | with_reducible refine Ex_ret ?_
    | with_reducible refine Ev_cmp ?_ (by kernel_rfl)
    | with_reducible refine Ts_cmp ?_ (by kernel_rfl)
    | with_reducible refine Ex_if ?_
    | with_reducible refine op_add ?_
    | with_reducible refine op_sub ?_))

section
variable {mg mb : Str → Option Value} {h₀ : Heap} {prog : Program} {w : World} {n : Nat} {μ : Mu} {P : Params} {env : Env} {ρ : Str → Option V}

def gridF (r c : Nat) (g : Nat → Nat → Int) : V := .lst ((List.range r).map fun i => .lst ((List.range c).map fun j => .int (g i j)))

theorem ratV_int (i : Int) : V.tup [.int i, .int 1] = ratV (i : Rat) := by unfold ratV; simp

theorem fn_from_whole (G : Gd mg mb (KK P) h₀) {r c : Nat} {g : Nat → Nat → Int} (hr : r ≤ 2 ^ 24) (hc : c ≤ 2 ^ 24)
    {Φ : V → Mu → Prop} (h : Φ (matF r c fun i l => (g i l : Rat)) μ) : Fn h₀ prog w (n + 1) (.ref 109) μ [gridF r c g] Φ := by
  refine Fn_K G (ok_from_whole P) rfl fun L => ?_
  refine Exs_cons (Ex_ret (Ev_comp (own := []) (ScopeOk.of (by kernel_rfl)) (It_list (by kernel_rfl) ?_)))
  k_units
  refine ⟨_, rfl, by simpa using hr, (List.range r).map fun i => rowF c fun l => (g i l : Rat), by simp, ?_, h⟩
  rintro C cells i x y hx hy
  obtain ⟨hi, rfl⟩ := range_get' hx
  obtain ⟨_, rfl⟩ := range_get' hy
  refine ⟨_, Asg.name (notFree (by kernel_rfl)) (by kernel_rfl), upd_sub (by kernel_rfl), fun μD _ => ?_⟩
  refine Ev_comp (own := []) (ScopeOk.of (by kernel_rfl)) (It_list (by kernel_rfl) ?_)
  k_units
  refine ⟨_, rfl, by simpa using hc, (List.range c).map fun l => ratV (g i l : Rat), by simp, ?_, rfl, rfl⟩
  rintro C cells l x y hx hy
  obtain ⟨hl, rfl⟩ := range_get' hx
  obtain ⟨_, rfl⟩ := range_get' hy
  refine ⟨_, Asg.name (notFree (by kernel_rfl)) (by kernel_rfl), upd_sub (by kernel_rfl), fun μE _ => ?_⟩
  k_units
  exact ⟨by simp, ratV_int _, rfl⟩

theorem fn_unit (G : Gd mg mb (KK P) h₀) {c : Nat} (hc : c ≤ 2 ^ 24)
    {Φ : V → Mu → Prop} (h : Φ (matF c c fun i l => if i = l then 1 else 0) μ) : Fn h₀ prog w (n + 1) (.ref 114) μ [.int c] Φ := by
  refine Fn_K G (ok_unit_matrix P) rfl fun L => ?_
  refine Exs_cons (Ex_ret (Ev_comp (own := ["row"]) (ScopeOk.of (by kernel_rfl)) ?_))
  refine It_range1 G (by kernel_rfl) (by kernel_rfl) (G.name (no_range P)) Boot.«range» ?_ (by decide) (by kernel_rfl) (by kernel_rfl) (by kernel_rfl)
  k_units
  refine ⟨c, rfl, hc, by simpa [rangeV_length] using hc, (List.range c).map fun i => rowF c fun l => if i = l then 1 else 0, by simp [rangeV_length], ?_, h⟩
  rintro C cells i x y hx hy
  obtain ⟨hi, rfl⟩ := rangeV_get hx
  obtain ⟨_, rfl⟩ := range_get' hy
  refine ⟨_, Asg.name (notFree (by kernel_rfl)) (by kernel_rfl), upd_sub (by kernel_rfl), fun μD _ => ?_⟩
  refine Ev_comp (own := []) (ScopeOk.of (by kernel_rfl)) ?_
  refine It_range1 G (by kernel_rfl) (by kernel_rfl) (G.name (no_range P)) Boot.«range» ?_ (by decide) (by kernel_rfl) (by kernel_rfl) (by kernel_rfl)
  k_units
  refine ⟨c, rfl, hc, by simpa [rangeV_length] using hc, (List.range c).map fun l => ratV (if i = l then 1 else 0), by simp [rangeV_length], ?_, rfl, rfl⟩
  rintro C cells l x y hx hy
  obtain ⟨hl, rfl⟩ := rangeV_get hx
  obtain ⟨_, rfl⟩ := range_get' hy
  refine ⟨_, Asg.name (notFree (by kernel_rfl)) (by kernel_rfl), upd_sub (by kernel_rfl), fun μE _ => ?_⟩
  refine Ev_if ?_
  k_units
  refine op_eq ⟨_, rfl, fun e => ?_, fun e => ?_⟩
  · have : i = l := by
      have : (0 : Int) + i = 0 + l := by simpa using e
      omega
    refine Ev_R1 G (by kernel_rfl) ⟨by rw [if_pos this], rfl⟩
  · have : i ≠ l := by
      have : (0 : Int) + i ≠ 0 + l := by simpa using e
      omega
    refine Ev_R0 G (by kernel_rfl) ⟨by rw [if_neg this], rfl⟩

theorem fn_transposed (G : Gd mg mb (KK P) h₀) {r c : Nat} {f : Nat → Nat → Rat} (hr0 : 0 < r) (hr : r ≤ 2 ^ 24) (hc : c ≤ 2 ^ 24)
    {Φ : V → Mu → Prop} (h : Φ (matF c r fun i l => f l i) μ) : Fn h₀ prog w (n + 2) (.ref 119) μ [matF r c f] Φ := by
  refine Fn_K G (ok_transposed P) rfl fun L => ?_
  refine Exs_cons (Ex_ret (Ev_comp (own := ["column"]) (ScopeOk.of (by kernel_rfl)) ?_))
  refine It_range1 G (by kernel_rfl) (by kernel_rfl) (G.name (no_range P)) Boot.«range» ?_ (by decide) (by kernel_rfl) (by kernel_rfl) (by kernel_rfl)
  refine Ev_idx1 (Ev_def G (ok_shape P) (by kernel_rfl) ?_ (by kernel_rfl) (by kernel_rfl) (by kernel_rfl))
  k_units
  refine fn_shapeF G hr0 hr hc ⟨_, _, rfl, rfl, c, rfl, hc, by simpa [rangeV_length] using hc, (List.range c).map fun i => rowF r fun l => f l i, by simp [rangeV_length], ?_, h⟩
  rintro C cells i x y hx hy
  obtain ⟨hi, rfl⟩ := rangeV_get hx
  obtain ⟨_, rfl⟩ := range_get' hy
  refine ⟨_, Asg.name (notFree (by kernel_rfl)) (by kernel_rfl), upd_sub (by kernel_rfl), fun μD _ => ?_⟩
  refine Ev_comp (own := []) (ScopeOk.of (by kernel_rfl)) (It_list (by kernel_rfl) ?_)
  k_units
  refine ⟨_, rfl, by simpa using hr, (List.range r).map fun l => ratV (f l i), by simp, ?_, rfl, rfl⟩
  rintro C cells l x y hx hy
  obtain ⟨hl, rfl⟩ := range_get' hx
  obtain ⟨_, rfl⟩ := range_get' hy
  refine ⟨_, Asg.name (notFree (by kernel_rfl)) (by kernel_rfl), upd_sub (by kernel_rfl), fun μE _ => ?_⟩
  refine Ev_item (Ev_name (by kernel_rfl) rfl (Ev_name (by kernel_rfl) rfl ⟨_, i, _, by simp, rowF_seq, range_get hi, by omega, rfl, rfl⟩)) (by with_unfolding_all (intros; rfl))

theorem fn_add (G : Gd mg mb (KK P) h₀) (ht : prog.given.tree = none) {r c j k : Nat} {f g : Nat → Nat → Rat} (hf : ∀ i, i < r → ∀ l, l < c → Bd j (f i l)) (hg : ∀ i, i < r → ∀ l, l < c → Bd k (g i l)) (hb : j + k ≤ 2 ^ 26) (hr0 : 0 < r) (hr : r ≤ 2 ^ 24) (hc : c ≤ 2 ^ 24)
    {Φ : V → Mu → Prop} (h : Φ (matF r c fun i l => f i l + g i l) μ) : Fn h₀ prog w (n + 4) (.ref 131) μ [matF r c f, matF r c g] Φ := by
  refine Fn_K G (ok_mat_add P) rfl fun L => ?_
  refine Exs_cons (Ex_expr ?_ (by kernel_rfl) (by kernel_rfl))
  refine Ev_def G (ok_need_shape P) (by kernel_rfl) ?_ (by kernel_rfl) (by kernel_rfl) (by kernel_rfl)
  refine Evs_cons (Ev_cmp ?_ (by kernel_rfl)) (by kernel_rfl)
  refine Ev_def G (ok_shape P) (by kernel_rfl) ?_ (by kernel_rfl) (by kernel_rfl) (by kernel_rfl)
  k_units
  refine fn_shapeF G hr0 hr hc ?_
  refine Ev_def G (ok_shape P) (by kernel_rfl) ?_ (by kernel_rfl) (by kernel_rfl) (by kernel_rfl)
  k_units
  refine fn_shapeF G hr0 hr hc ?_
  refine op_eqd (by simp [isD, isDs]) (by simp [isD, isDs]) (by simp [pd, pds, PyData.depth, PyData.depthAll]) (by simp [pd, pds, PyData.depth, PyData.depthAll]) ?_
  have e : PyData.eqv (pd (.tup [.int (r : Int), .int (c : Int)])) (pd (.tup [.int (r : Int), .int (c : Int)])) = true := by simp [pd, pds, PyData.eqv, PyData.eqvAll]
  rw [e]
  refine Evs_cons (Ev_str ?_) (by kernel_rfl)
  refine Evs_nil (fn_need G ⟨rfl, ?_⟩)
  refine Exs_cons (Ex_ret (Ev_comp (own := ["row"]) (ScopeOk.of (by kernel_rfl)) ?_))
  refine It_enum G (by kernel_rfl) (G.name (no_enumerate P)) Boot.«enumerate» ?_ (by decide) (by kernel_rfl) (by kernel_rfl) (by kernel_rfl)
  k_units
  refine ⟨_, rfl, by simpa [enumV_length] using hr, (List.range r).map fun i => rowF c fun l => f i l + g i l, by simp [enumV_length], ?_, h⟩
  rintro C cells i x y hx hy
  obtain ⟨z, hz, rfl⟩ := enumV_get hx
  obtain ⟨hi, rfl⟩ := range_get' hz
  obtain ⟨_, rfl⟩ := range_get' hy
  refine ⟨_, Asg.pair (notFree (by kernel_rfl)) (notFree (by kernel_rfl)) (by kernel_rfl) (by kernel_rfl), upd_sub2 (by kernel_rfl) (by kernel_rfl), fun μD _ => ?_⟩
  refine Ev_comp (own := []) (ScopeOk.of (by kernel_rfl)) ?_
  refine It_enum G (by kernel_rfl) (G.name (no_enumerate P)) Boot.«enumerate» ?_ (by decide) (by kernel_rfl) (by kernel_rfl) (by kernel_rfl)
  k_units
  refine ⟨_, rfl, by simpa [enumV_length] using hc, (List.range c).map fun l => ratV (f i l + g i l), by simp [enumV_length], ?_, rfl, rfl⟩
  rintro C cells l x y hx hy
  obtain ⟨z, hz, rfl⟩ := enumV_get hx
  obtain ⟨hl, rfl⟩ := range_get' hz
  obtain ⟨_, rfl⟩ := range_get' hy
  refine ⟨_, Asg.pair (notFree (by kernel_rfl)) (notFree (by kernel_rfl)) (by kernel_rfl) (by kernel_rfl), upd_sub2 (by kernel_rfl) (by kernel_rfl), fun μE _ => ?_⟩
  refine Ev_def G (ok_radd P) (by kernel_rfl) ?_ (by kernel_rfl) (by kernel_rfl) (by kernel_rfl)
  k_units
  refine Ev_item (Ev_item (Ev_name (by kernel_rfl) rfl (Ev_name (by kernel_rfl) rfl ⟨_, i, _, rfl, matF_seq, range_get hi, by omega, Ev_name (by kernel_rfl) rfl ⟨_, l, _, rfl, rowF_seq, range_get hl, by omega, ?_⟩⟩)) (by with_unfolding_all (intros; rfl))) (by with_unfolding_all (intros; rfl))
  k_units
  exact fn_radd G ht (hf i hi l hl) (hg i hi l hl) hb ⟨rfl, rfl⟩

theorem fn_mul (G : Gd mg mb (KK P) h₀) (ht : prog.given.tree = none) {r c d j k : Nat} {f g : Nat → Nat → Rat} (hf : ∀ i, i < r → ∀ l, l < c → Bd j (f i l)) (hg : ∀ i, i < c → ∀ l, l < d → Bd k (g i l))
    (hb : 1 + c * (j + k + 1) + (j + k) ≤ 2 ^ 26) (hr0 : 0 < r) (hr : r ≤ 2 ^ 24) (hc0 : 0 < c) (hc : c ≤ 2 ^ 24) (hd : d ≤ 2 ^ 24)
    {Φ : V → Mu → Prop} (h : Φ (matF r d fun i l => sumTo c fun m => f i m * g m l) μ) : Fn h₀ prog w (n + 5) (.ref 141) μ [matF r c f, matF c d g] Φ := by
  refine Fn_K G (ok_mat_mul P) rfl fun L => ?_
  refine Exs_cons (Ex_expr ?_ (by kernel_rfl) (by kernel_rfl))
  refine Ev_def G (ok_need_shape P) (by kernel_rfl) ?_ (by kernel_rfl) (by kernel_rfl) (by kernel_rfl)
  refine Evs_cons (Ev_cmp ?_ (by kernel_rfl)) (by kernel_rfl)
  refine Ev_idx1 (Ev_def G (ok_shape P) (by kernel_rfl) ?_ (by kernel_rfl) (by kernel_rfl) (by kernel_rfl))
  k_units
  refine fn_shapeF G hr0 hr hc ⟨_, _, rfl, rfl, ?_⟩
  refine Ev_len G (by kernel_rfl) ?_ (by kernel_rfl) (by kernel_rfl)
  k_units
  refine ⟨_, matF_seq, by simpa using hc, op_eq ?_⟩
  have e : ((c : Int) == (((List.range c).map fun i => rowF d (g i)).length : Int)) = true := by simp
  rw [e]
  refine Evs_cons (Ev_str ?_) (by kernel_rfl)
  refine Evs_nil (fn_need G ⟨rfl, ?_⟩)
  refine Exs_cons (Ex_assign (x := "columns") (by kernel_rfl) ?_ (by kernel_rfl))
  refine Ev_def G (ok_transposed P) (by kernel_rfl) ?_ (by kernel_rfl) (by kernel_rfl) (by kernel_rfl)
  k_units
  refine fn_transposed G hc0 hc hd ?_
  refine Exs_cons (Ex_ret (Ev_comp (own := ["row"]) (ScopeOk.of (by kernel_rfl)) (It_list (by kernel_rfl) ?_)))
  k_units
  refine ⟨_, rfl, by simpa using hr, (List.range r).map fun i => rowF d fun l => sumTo c fun m => f i m * g m l, by simp, ?_, h⟩
  rintro C cells i x y hx hy
  obtain ⟨hi, rfl⟩ := range_get' hx
  obtain ⟨_, rfl⟩ := range_get' hy
  refine ⟨_, Asg.name (notFree (by kernel_rfl)) (by kernel_rfl), upd_sub (by kernel_rfl), fun μD _ => ?_⟩
  refine Ev_comp (own := []) (ScopeOk.of (by kernel_rfl)) (It_list (by kernel_rfl) ?_)
  k_units
  refine ⟨_, rfl, by simpa using hd, (List.range d).map fun l => ratV (sumTo c fun m => f i m * g m l), by simp, ?_, rfl, rfl⟩
  rintro C cells l x y hx hy
  obtain ⟨hl, rfl⟩ := range_get' hx
  obtain ⟨_, rfl⟩ := range_get' hy
  refine ⟨_, Asg.name (notFree (by kernel_rfl)) (by kernel_rfl), upd_sub (by kernel_rfl), fun μE _ => ?_⟩
  refine Ev_def G (ok_dot P) (by kernel_rfl) ?_ (by kernel_rfl) (by kernel_rfl) (by kernel_rfl)
  k_units
  exact fn_dot G ht (fun m hm => hf i hi m hm) (fun m hm => hg m hm l hl) hb hc ⟨rfl, rfl⟩
end

end Mine
end

section
open PySem PySem.Calls PyProof.Rows PySem.W
namespace Mine

local macro_rules
  | `(tactic| k_units) => `(tactic| repeat (first
    | with_reducible refine Ev_bin ?_
    | with_reducible refine Evs_cons ?_ (by kernel_rfl)
    | with_reducible refine Evs_nil ?_
    | with_reducible refine Ev_idx0 ?_
    | with_reducible refine Ev_idx1 ?_
    | with_reducible refine ⟨_, _, rfl, rfl, ?_⟩
    | ((with_reducible refine' Ev_name ?hk ?hv ?_ (by kernel_rfl) (by kernel_rfl)); (case hk => kernel_rfl); (case hv => exact rfl))
    | with_reducible refine Ev_int ?_
    | with_reducible refine Ev_tuple ?_
    | with_reducible refine Exs_cons ?_
    | with_reducible refine Ex_ret ?_
    | with_reducible refine Ev_cmp ?_ (by kernel_rfl)
    | with_reducible refine Ts_cmp ?_ (by kernel_rfl)
    | with_reducible refine Ex_if ?_
    | with_reducible refine op_add ?_
    | with_reducible refine op_sub ?_))

def rowsF (r c : Nat) (f : Nat → Nat → Rat) : List V := (List.range r).map fun i => rowF c (f i)
theorem matF_rows {r c : Nat} {f : Nat → Nat → Rat} : matF r c f = .lst (rowsF r c f) := rfl
theorem rowsF_len {r c : Nat} {f : Nat → Nat → Rat} : (rowsF r c f).length = r := by simp [rowsF]
theorem rowsF_get {r c i : Nat} {f : Nat → Nat → Rat} (h : i < r) : (rowsF r c f)[i]? = some (rowF c (f i)) := range_get h
theorem rowsF_set {r c i : Nat} {f : Nat → Nat → Rat} {v : Nat → Rat} : (rowsF r c f).set i (rowF c v) = rowsF r c fun k => if k = i then v else f k := by
  refine List.ext_getElem? fun k => ?_
  rw [List.getElem?_set]
  by_cases hk : i = k
  · subst hk
    by_cases hr : i < r
    · rw [if_pos rfl, rowsF_len, if_pos hr, rowsF_get hr, if_pos rfl]
    · rw [if_pos rfl, rowsF_len, if_neg hr, List.getElem?_eq_none (by rw [rowsF_len]; omega)]
  · rw [if_neg hk]
    by_cases hr : k < r
    · rw [rowsF_get hr, rowsF_get hr, if_neg (Ne.symm hk)]
    · rw [List.getElem?_eq_none (by rw [rowsF_len]; omega), List.getElem?_eq_none (by rw [rowsF_len]; omega)]
theorem rowsF_swap {r c i j : Nat} {f : Nat → Nat → Rat} : ((rowsF r c f).set i (rowF c (f j))).set j (rowF c (f i)) = rowsF r c (swapR f i j) := by
  rw [rowsF_set, rowsF_set]; rfl
theorem rowsF_div {r c row col : Nat} {f : Nat → Nat → Rat} : (rowsF r c f).set row (rowF c fun l => f row l / f row col) = rowsF r c (divR f row col) := by
  rw [rowsF_set]; rfl

theorem isD_ratV {q : Rat} : isD (ratV q) = true := by simp [ratV, isD, isDs]
theorem eqv_ratV {p q : Rat} : PyData.eqv (pd (ratV p)) (pd (ratV q)) = decide (p = q) := by
  have : (PyData.eqv (pd (ratV p)) (pd (ratV q)) = true) ↔ p = q := by
    simp [ratV, pd, pds, PyData.eqv, PyData.eqvAll]
    exact ⟨fun h => Rat.ext h.1 (Int.ofNat_inj.mp h.2), fun h => h ▸ ⟨rfl, rfl⟩⟩
  rw [Bool.eq_iff_iff, this]; simp

section
variable {mg mb : Str → Option Value} {h₀ : Heap} {prog : Program} {w : World} {n : Nat} {μ : Mu} {P : Params} {env : Env} {ρ : Str → Option V}

theorem op_neRat {p q : Rat} {Φ : V → Mu → Prop} (h : Φ (.bool (!decide (p = q))) μ) : Op2 h₀ prog w n μ (compareOp .NotEq) (ratV p) (ratV q) Φ := by
  refine op_ned isD_ratV isD_ratV (by simp [ratV, pd, pds, PyData.depth, PyData.depthAll]) (by simp [ratV, pd, pds, PyData.depth, PyData.depthAll]) ?_
  rw [eqv_ratV]; exact h

theorem fn_copied (G : Gd mg mb (KK P) h₀) {r c : Nat} {f : Nat → Nat → Rat} (hr : r ≤ 2 ^ 24) (hc : c ≤ 2 ^ 24)
    {Φ : V → Mu → Prop} (h : ∀ a, μ a = none → Φ (.mt a) (muSet μ a (rowsF r c f))) : Fn h₀ prog w (n + 1) (.ref 104) μ [matF r c f] Φ := by
  refine Fn_K G (ok_copied P) rfl fun L => ?_
  refine Exs_cons (Ex_ret (Ev_compN (own := []) (ScopeOk.of (by kernel_rfl)) (It_list (by kernel_rfl) ?_)))
  k_units
  refine ⟨_, rfl, by simpa using hr, rowsF r c f, by simp [rowsF], ?_, fun a ha _ => h a ha⟩
  rintro C cells i x y hx hy
  obtain ⟨hi, rfl⟩ := range_get' hx
  obtain ⟨_, rfl⟩ := range_get' hy
  refine ⟨_, Asg.name (notFree (by kernel_rfl)) (by kernel_rfl), upd_sub (by kernel_rfl), fun μD _ => ?_⟩
  refine Ev_callT G (by kernel_rfl) (G.name (no_list P)) Boot.«list» ?_ (by decide) (by kernel_rfl) (by kernel_rfl) (by kernel_rfl) (by kernel_rfl)
  k_units
  exact fn_list rowF_seq (by simpa using hc) ⟨rfl, rfl⟩

theorem fn_swap (G : Gd mg mb (KK P) h₀) {a : Addr} {r c i j : Nat} {f : Nat → Nat → Rat} (hr : r ≤ 2 ^ 24) (hi : i < r) (hj : j < r) (ha : μ a = some (rowsF r c f))
    {Φ : V → Mu → Prop} (h : Φ .none (muSet μ a (rowsF r c (swapR f i j)))) : Fn h₀ prog w (n + 1) (.ref 155) μ [.mt a, .int (i : Int), .int (j : Int)] Φ := by
  refine Fn_K G (ok_swap_rows P) rfl fun L => ?_
  refine Exs_cons (Ex_setitem2 ?_ (by kernel_rfl) (by kernel_rfl))
  refine Ev_tuple (Evs_cons ?_ (by kernel_rfl))
  refine Ev_item (Ev_name (by kernel_rfl) rfl (Ev_name (by kernel_rfl) rfl ⟨_, j, _, rfl, ha, rowsF_get hj, by omega, ?_⟩)) (by with_unfolding_all (intros; rfl))
  refine Evs_cons ?_ (by kernel_rfl)
  refine Ev_item (Ev_name (by kernel_rfl) rfl (Ev_name (by kernel_rfl) rfl ⟨_, i, _, rfl, ha, rowsF_get hi, by omega, ?_⟩)) (by with_unfolding_all (intros; rfl))
  refine Evs_nil ⟨by simp, _, _, rfl, ?_⟩
  refine Ev_name (by kernel_rfl) rfl (Ev_name (by kernel_rfl) rfl ⟨a, _, i, rfl, rfl, ha, by rw [rowsF_len]; exact hi, by omega, ?_⟩)
  refine Ev_name (by kernel_rfl) rfl (Ev_name (by kernel_rfl) rfl ⟨a, _, j, rfl, rfl, muSet_self, by rw [List.length_set, rowsF_len]; exact hj, by omega, ?_⟩)
  rw [muSet_set, rowsF_swap]
  exact Exs_nil h

theorem fn_take (G : Gd mg mb (KK P) h₀) (ht : prog.given.tree = none) {a : Addr} {r c i s K₁ K₂ K₃ : Nat} {q : Rat} {f : Nat → Nat → Rat} (hr : r ≤ 2 ^ 24) (hc : c ≤ 2 ^ 24) (hi : i < r) (hs : s < r) (ha : μ a = some (rowsF r c f))
    (b1 : ∀ l, l < c → Bd K₁ (f i l)) (b2 : ∀ l, l < c → Bd K₂ (f s l)) (b3 : Bd K₃ q) (hb : K₁ + (K₃ + K₂) ≤ 2 ^ 26)
    {Φ : V → Mu → Prop} (h : Φ .none (muSet μ a (rowsF r c fun k => if k = i then fun l => f i l - q * f s l else f k))) : Fn h₀ prog w (n + 4) (.ref 160) μ [.mt a, .int (i : Int), .int (s : Int), ratV q] Φ := by
  refine Fn_K G (ok_take_off P) rfl fun L => ?_
  refine Exs_cons (Ex_setitem ?_ (by kernel_rfl))
  refine Ev_comp (own := []) (ScopeOk.of (by kernel_rfl)) ?_
  refine It_enum G (by kernel_rfl) (G.name (no_enumerate P)) Boot.«enumerate» ?_ (by decide) (by kernel_rfl) (by kernel_rfl) (by kernel_rfl)
  refine Ev_item (Ev_name (by kernel_rfl) rfl (Ev_name (by kernel_rfl) rfl ⟨_, i, _, rfl, ha, rowsF_get hi, by omega, ?_⟩)) (by with_unfolding_all (intros; rfl))
  refine ⟨_, rfl, by simpa [enumV_length] using hc, (List.range c).map fun l => ratV (f i l - q * f s l), by simp [enumV_length], ?_, ?_⟩
  · rintro C cells l x y hx hy
    obtain ⟨z, hz, rfl⟩ := enumV_get hx
    obtain ⟨hl, rfl⟩ := range_get' hz
    obtain ⟨_, rfl⟩ := range_get' hy
    refine ⟨_, Asg.pair (notFree (by kernel_rfl)) (notFree (by kernel_rfl)) (by kernel_rfl) (by kernel_rfl), upd_sub2 (by kernel_rfl) (by kernel_rfl), fun μE hE => ?_⟩
    refine Ev_def G (ok_rsub P) (by kernel_rfl) ?_ (by kernel_rfl) (by kernel_rfl) (by kernel_rfl)
    refine Evs_cons (Ev_name (by kernel_rfl) rfl ?_) (by kernel_rfl)
    refine Evs_cons ?_ (by kernel_rfl)
    refine Ev_def G (ok_rmul P) (by kernel_rfl) ?_ (by kernel_rfl) (by kernel_rfl) (by kernel_rfl)
    refine Evs_cons (Ev_name (by kernel_rfl) rfl ?_) (by kernel_rfl)
    refine Evs_cons ?_ (by kernel_rfl)
    refine Ev_item (Ev_item (Ev_name (by kernel_rfl) rfl (Ev_name (by kernel_rfl) rfl ⟨_, s, _, rfl, hE _ _ ha, rowsF_get hs, by omega, Ev_name (by kernel_rfl) rfl ⟨_, l, _, rfl, rowF_seq, range_get hl, by omega, ?_⟩⟩)) (by with_unfolding_all (intros; rfl))) (by with_unfolding_all (intros; rfl))
    refine Evs_nil (fn_rmul G ht b3 (b2 l hl) (by omega) ?_)
    exact Evs_nil (fn_rsub G ht (b1 l hl) (b3.mul (b2 l hl)) hb ⟨rfl, rfl⟩)
  · refine Ev_name (by kernel_rfl) rfl (Ev_name (by kernel_rfl) rfl ⟨a, _, i, rfl, rfl, ha, by rw [rowsF_len]; exact hi, by omega, ?_⟩)
    have := rowsF_set (r := r) (c := c) (i := i) (f := f) (v := fun l => f i l - q * f s l)
    unfold rowF at this
    rw [this]
    exact Exs_nil h
end

end Mine
end

section
open PySem PySem.Calls PyProof.Rows PySem.W
namespace Mine

local macro_rules
  | `(tactic| k_units) => `(tactic| repeat (first
    | with_reducible refine Ev_bin ?_
    | with_reducible refine Evs_cons ?_ (by kernel_rfl)
    | with_reducible refine Evs_nil ?_
    | with_reducible refine Ev_idx0 ?_
    | with_reducible refine Ev_idx1 ?_
    | with_reducible refine ⟨_, _, rfl, rfl, ?_⟩
    | ((with_reducible refine' Ev_name ?hk ?hv ?_ (by kernel_rfl) (by kernel_rfl)); (case hk => kernel_rfl); (case hv => exact rfl))
    | with_reducible refine Ev_int ?_
    | with_reducible refine Ev_tuple ?_
    | with_reducible refine Exs_cons ?_
    | with_reducible refine Ex_ret ?_
    | with_reducible refine Ev_cmp ?_ (by kernel_rfl)
    | with_reducible refine Ts_cmp ?_ (by kernel_rfl)
    | with_reducible refine Ex_if ?_
    | with_reducible refine op_add ?_
    | with_reducible refine op_sub ?_))

def pivV (l : List Nat) : List V := l.map fun i : Nat => .int (i : Int)
def MM (μ : Mu) (fa pa : Addr) (r c : Nat) (g : Nat → Nat → Rat) (p : List Nat) : Mu := muSet (muSet μ fa (rowsF r c g)) pa (pivV p)

section
variable {mg mb : Str → Option Value} {h₀ : Heap} {prog : Program} {w : World} {n : Nat} {μ : Mu} {P : Params} {env : Env} {ρ : Str → Option V} {fa pa : Addr} {r c : Nat} {g g' : Nat → Nat → Rat} {p p' : List Nat}

theorem MM_fa (h : fa ≠ pa) : MM μ fa pa r c g p fa = some (rowsF r c g) := by unfold MM muSet; rw [if_neg h, if_pos rfl]
theorem MM_pa : MM μ fa pa r c g p pa = some (pivV p) := by unfold MM muSet; rw [if_pos rfl]
theorem MM_set (h : fa ≠ pa) : muSet (MM μ fa pa r c g p) fa (rowsF r c g') = MM μ fa pa r c g' p := by
  funext b; unfold MM muSet
  by_cases h1 : b = fa
  · subst h1; simp [h]
  · simp [h1]
theorem MM_piv : muSet (MM μ fa pa r c g p) pa (pivV p') = MM μ fa pa r c g p' := by
  funext b; unfold MM muSet
  by_cases h1 : b = pa
  · subst h1; simp
  · simp [h1]
theorem MM_dom : dom (MM μ fa pa r c g p) = dom (MM μ fa pa r c g' p') := by
  funext b
  unfold MM
  rw [eq_iff_iff, dom_set, dom_set, dom_set, dom_set]

def tookV (r row col k : Nat) (g : Nat → Nat → Rat) : List Nat := (((List.range (r - row)).map (row + ·)).take k).filter fun i => decide (g i col ≠ 0)
theorem tookV_len {r row col k : Nat} {g : Nat → Nat → Rat} : (tookV r row col k g).length ≤ k := by
  unfold tookV
  refine Nat.le_trans (List.length_filter_le _ _) ?_
  rw [List.length_take]; omega
theorem tookV_step {r row col k : Nat} {g : Nat → Nat → Rat} (h : k < r - row) : tookV r row col (k + 1) g = if g (row + k) col ≠ 0 then tookV r row col k g ++ [row + k] else tookV r row col k g := by
  unfold tookV
  rw [List.take_add_one, range_get h, List.filter_append]
  by_cases h0 : g (row + k) col ≠ 0
  · rw [if_pos h0]; simp [h0]
  · rw [if_neg h0]; simp at h0; simp [h0]
theorem tookV_all {r row col : Nat} {g : Nat → Nat → Rat} : tookV r row col (r - row) g = spots r row col g := by
  unfold tookV spots
  rw [List.take_of_length_le (by simp)]

theorem fn_echelon (G : Gd mg mb (KK P) h₀) (ht : prog.given.tree = none) {K : Nat} {f : Nat → Nat → Rat} (hf : AllBd K r c f) (hK : ebd K c ≤ 2 ^ 26) (hr0 : 0 < r) (hr : r ≤ 2 ^ 22) (hc : c ≤ 2 ^ 22)
    {Φ : V → Mu → Prop} (h : Φ (.tup [matF r c (ech r f c).g, .lst (pivV (ech r f c).piv)]) μ) : Fn h₀ prog w (n + 5) (.ref 165) μ [matF r c f] Φ := by
  refine Fn.freezeT ?_
  refine Fn_K G (ok_echelon P) rfl fun L => ?_
  refine Exs_cons (Ex_assign2 rfl ?_ (by kernel_rfl) (by kernel_rfl))
  refine Ev_tuple (Evs_cons ?_ (by kernel_rfl))
  refine Ev_def G (ok_copied P) (by kernel_rfl) ?_ (by kernel_rfl) (by kernel_rfl) (by kernel_rfl)
  k_units
  refine fn_copied G (by omega) (by omega) fun fa hfa => ?_
  refine Evs_cons (Ev_listM (Evs_nil ⟨by simp, fun pa hpa => ?_⟩)) (by kernel_rfl)
  have hne : fa ≠ pa := fun e => by subst e; rw [muSet_self] at hpa; cases hpa
  have hpa' : μ pa = none := by
    unfold muSet at hpa; rw [if_neg (Ne.symm hne)] at hpa; exact hpa
  refine Evs_nil ⟨by simp, _, Asg.pair trivial trivial (by kernel_rfl) (by kernel_rfl), ?_⟩
  refine Exs_cons (Ex_for ?_)
  refine It_range1 G (by kernel_rfl) (by kernel_rfl) (G.name (no_range P)) Boot.«range» ?_ (by decide) (by kernel_rfl) (by kernel_rfl) (by kernel_rfl)
  refine Ev_idx1 (Ev_def G (ok_shape P) (by kernel_rfl) ?_ (by kernel_rfl) (by kernel_rfl) (by kernel_rfl))
  k_units
  refine fn_shapeF G hr0 (by omega) (by omega) ⟨_, _, rfl, rfl, c, rfl, by omega, ?_⟩
  show ∃ I, _
  refine ⟨fun k ρ' μ' => μ' = MM μ fa pa r c (ech r f k).g (ech r f k).piv ∧ ρ' "found" = some (.mt fa) ∧ ρ' "pivots" = some (.mt pa), ⟨rfl, rfl, rfl⟩, ?_, ?_, ?_⟩
  · rintro k ρ' μ' ⟨rfl, _⟩; exact MM_dom (p' := [])
  · rintro k x ρ' μ' hx ⟨rfl, hfd, hpv⟩
    obtain ⟨hk, rfl⟩ := rangeV_get hx
    have e0 : (0 : Int) + (k : Int) = (k : Int) := by omega
    rw [e0]
    clear hx
    have hS : AllBd (ebd K k) r c (ech r f k).g := ech_bd hf k (by omega)
    have hl := ech_len r f k
    have hKk : ebd K (k + 1) ≤ 2 ^ 26 := Nat.le_trans (ebd_mono (by omega)) hK
    have hstep : ech r f (k + 1) = echStep r (ech r f k) k := rfl
    dsimp only
    generalize ech r f (k + 1) = S' at hstep ⊢
    generalize ech r f k = S at hS hl hstep ⊢
    obtain ⟨g, piv⟩ := S
    have hKk' : 4 * ebd K k + 1 ≤ 2 ^ 26 := hKk
    generalize ebd K k = Kk at hS hKk'
    clear hKk
    refine ⟨_, Asg.name trivial (by kernel_rfl), ?_⟩
    refine Exs_cons (Ex_assign (x := "row") (by kernel_rfl) ?_ (by kernel_rfl))
    refine Ev_len G (by kernel_rfl) ?_ (by kernel_rfl) (by kernel_rfl)
    refine Ev_name (by kernel_rfl) hpv ⟨_, MM_pa, by simp [pivV] at hl ⊢; omega, ?_⟩
    have e1 : (((pivV piv).length : Nat) : Int) = ((piv.length : Nat) : Int) := by simp [pivV]
    show Exs _ _ _ _ _ (upd _ _ (.int ((pivV piv).length : Nat))) _ _ _
    rw [e1]
    refine Exs_cons (Ex_assign_comp (own := []) (ScopeOk.of (by kernel_rfl)) (by kernel_rfl) (by kernel_rfl) ?_)
    refine It_range2 G (by kernel_rfl) (by kernel_rfl) (G.name (no_range P)) Boot.«range» ?_ (by decide) (by kernel_rfl) (by kernel_rfl) (by kernel_rfl) (by kernel_rfl) (by kernel_rfl)
    refine Ev_name (by kernel_rfl) rfl ?_
    refine Ev_len G (by kernel_rfl) ?_ (by kernel_rfl) (by kernel_rfl)
    refine Ev_name (by kernel_rfl) hfd ⟨_, MM_fa hne, by rw [rowsF_len]; omega, _, _, rfl, rfl, by omega, by simp at hl; omega, by omega, by rw [rowsF_len]; omega, ?_⟩
    rw [rowsF_len]
    have e2 : ((r : Int) - (piv.length : Int)).toNat = r - piv.length := by omega
    rw [e2]
    refine ⟨by rw [rangeV_length]; omega, fun j res μ' => μ' = MM μ fa pa r c g piv ∧ res = pivV (tookV r piv.length k j g), ⟨rfl, rfl⟩, ?_, ?_, ?_⟩
    · rintro j res μ' ⟨rfl, rfl⟩
      exact ⟨by simpa [pivV] using tookV_len, rfl⟩
    · rintro C cells D j x res μ' hx ⟨rfl, rfl⟩ hD
      obtain ⟨hj, rfl⟩ := rangeV_get hx
      have hDf : D ≠ fa := fun e => by subst e; rw [MM_fa hne] at hD; cases hD
      have hfD : muSet (MM μ fa pa r c g piv) D (pivV (tookV r piv.length k j g)) fa = some (rowsF r c g) := by
        unfold muSet; rw [if_neg (Ne.symm hDf)]; exact MM_fa hne
      refine ⟨_, Asg.name (notFree (by kernel_rfl)) (by kernel_rfl), upd_sub (by kernel_rfl), TsF_one (Ts_cmp ?_ (by kernel_rfl))⟩
      refine Ev_item (Ev_item (Ev_name (by kernel_rfl) hfd (Ev_name (by kernel_rfl) rfl ⟨_, piv.length + j, _, by rw [Int.natCast_add], hfD, rowsF_get (by omega), by omega, Ev_name (by kernel_rfl) rfl ⟨_, k, _, rfl, rowF_seq, range_get hk, by omega, ?_⟩⟩)) (by with_unfolding_all (intros; rfl))) (by with_unfolding_all (intros; rfl))
      refine Ev_R0 G (by kernel_rfl) (op_neRat ⟨_, rfl, _, rfl, hD, fun e => ?_, fun e => ?_⟩)
      · refine ⟨rfl, ?_⟩
        rw [tookV_step hj, if_neg (by simpa using e)]
      · refine Ev_name (by kernel_rfl) rfl ⟨_, rfl, hD, rfl, ?_⟩
        rw [tookV_step hj, if_pos (by simpa using e)]
        simp [pivV]
    · rintro res μ' ⟨rfl, rfl⟩
      rw [rangeV_length, tookV_all]
      refine Exs_cons (Ex_if (Ts_cmp ?_ (by kernel_rfl)))
      refine Ev_len G (by kernel_rfl) ?_ (by kernel_rfl) (by kernel_rfl)
      have hsl : (spots r piv.length k g).length ≤ r := by
        unfold spots
        refine Nat.le_trans (List.length_filter_le _ _) ?_
        simp
      refine Ev_name (by kernel_rfl) rfl ⟨_, rfl, by simp [pivV]; omega, ?_⟩
      refine Ev_int (op_eq ⟨_, rfl, fun e => ?_, fun e => ?_⟩)
      · have e : spots r piv.length k g = [] := by
          cases hs : spots r piv.length k g with
          | nil => rfl
          | cons i t => rw [hs] at e; simp [pivV] at e; omega
        have : S' = ⟨g, piv⟩ := by rw [hstep]; unfold echStep; simp only; rw [e]
        subst this
        exact Exs_cons (Ex_cont ⟨rfl, hfd, hpv⟩)
      · cases hs : spots r piv.length k g with
        | nil => rw [hs] at e; simp [pivV] at e
        | cons i t =>
        obtain ⟨m1, m2, m3⟩ := spots_mem (r := r) (row := piv.length) (col := k) (i := i) (g := g) (by rw [hs]; exact List.mem_cons_self)
        have hS'' : S' = ⟨clrR (divR (swapR g piv.length i) piv.length k) piv.length k r, piv ++ [k]⟩ := by rw [hstep]; unfold echStep; simp only; rw [hs]
        clear hstep e hsl hs
        subst hS''
        have hb1 := hS.swap (i := piv.length) (j := i) (by omega) m2
        have h0 : swapR g piv.length i piv.length k ≠ 0 := by
          unfold swapR; split
          · rename_i e; rw [e]; exact m3
          · rw [if_pos rfl]; exact m3
        have hb2 := hb1.div (row := piv.length) (by omega) hk h0
        have h10 : ∀ l, l < c → Bd Kk (swapR g piv.length i piv.length l) := fun l hl => hb1 _ (by omega) l hl
        generalize hg1 : swapR g piv.length i = g1 at hb1 h0 hb2 h10 ⊢
        have hrow : piv.length < r := by omega
        refine Exs_nil ?_
        refine Exs_cons (Ex_expr ?_ (by kernel_rfl) (by kernel_rfl))
        refine Ev_def G (ok_swap_rows P) (by kernel_rfl) ?_ (by kernel_rfl) (by kernel_rfl) (by kernel_rfl)
        refine Evs_cons (Ev_name (by kernel_rfl) hfd ?_) (by kernel_rfl)
        refine Evs_cons (Ev_name (by kernel_rfl) rfl ?_) (by kernel_rfl)
        refine Evs_cons ?_ (by kernel_rfl)
        refine Ev_idx0 (Ev_name (by kernel_rfl) rfl ⟨_, .int (i : Int), rfl, rfl, ?_⟩)
        refine Evs_nil (Fn.up (fn_swap (n := n) G (by omega) hrow m2 (MM_fa hne) ?_) (by omega))
        rw [MM_set hne, hg1]
        refine ⟨rfl, ?_⟩
        refine Exs_cons (Ex_assign (x := "lead") (by kernel_rfl) ?_ (by kernel_rfl))
        refine Ev_item (Ev_item (Ev_name (by kernel_rfl) hfd (Ev_name (by kernel_rfl) rfl ⟨_, piv.length, _, rfl, MM_fa hne, rowsF_get hrow, by omega, Ev_name (by kernel_rfl) rfl ⟨_, k, _, rfl, rowF_seq, range_get hk, by omega, ?_⟩⟩)) (by with_unfolding_all (intros; rfl))) (by with_unfolding_all (intros; rfl))
        refine Exs_cons (Ex_setitem ?_ (by kernel_rfl))
        refine Ev_comp (own := []) (ScopeOk.of (by kernel_rfl)) (It_list (by kernel_rfl) ?_)
        refine Ev_item (Ev_name (by kernel_rfl) hfd (Ev_name (by kernel_rfl) rfl ⟨_, piv.length, _, rfl, MM_fa hne, rowsF_get hrow, by omega, ?_⟩)) (by with_unfolding_all (intros; rfl))
        refine ⟨_, rfl, by simp; omega, (List.range c).map fun l => ratV (g1 piv.length l / g1 piv.length k), by simp, ?_, ?_⟩
        · rintro C cells l x y hx hy
          obtain ⟨hl', rfl⟩ := range_get' hx
          obtain ⟨_, rfl⟩ := range_get' hy
          refine ⟨_, Asg.name (notFree (by kernel_rfl)) (by kernel_rfl), upd_sub (by kernel_rfl), fun μE _ => ?_⟩
          refine Ev_def G (ok_rdiv P) (by kernel_rfl) ?_ (by kernel_rfl) (by kernel_rfl) (by kernel_rfl)
          k_units
          exact Fn.up (fn_rdiv (n := n) G ht (h10 l hl') (h10 k hk) h0 (by omega) ⟨rfl, rfl⟩) (by omega)
        refine Ev_name (by kernel_rfl) hfd (Ev_name (by kernel_rfl) rfl ⟨fa, _, piv.length, rfl, rfl, MM_fa hne, by rw [rowsF_len]; exact hrow, by omega, ?_⟩)
        have ed := rowsF_div (r := r) (c := c) (row := piv.length) (col := k) (f := g1)
        have erw : (V.lst ((List.range c).map fun l => ratV (g1 piv.length l / g1 piv.length k))) = rowF c (fun l => g1 piv.length l / g1 piv.length k) := rfl
        rw [erw, ed, MM_set hne]
        clear erw ed
        have hdo : ∀ m, m ≠ piv.length → divR g1 piv.length k m = g1 m := fun m hm => divR_other hm
        generalize divR g1 piv.length k = g2 at hb2 hdo ⊢
        refine Exs_cons (Ex_for ?_)
        refine It_range1 G (by kernel_rfl) (by kernel_rfl) (G.name (no_range P)) Boot.«range» ?_ (by decide) (by kernel_rfl) (by kernel_rfl) (by kernel_rfl)
        refine Ev_len G (by kernel_rfl) ?_ (by kernel_rfl) (by kernel_rfl)
        refine Ev_name (by kernel_rfl) hfd ⟨_, MM_fa hne, by rw [rowsF_len]; omega, ?_⟩
        rw [rowsF_len]
        refine ⟨r, rfl, by omega, ?_⟩
        refine ⟨fun j ρ₂ μ₂ => μ₂ = MM μ fa pa r c (clrR g2 piv.length k j) piv ∧ ρ₂ "found" = some (.mt fa) ∧ ρ₂ "pivots" = some (.mt pa) ∧ ρ₂ "row" = some (.int (piv.length : Int)) ∧ ρ₂ "column" = some (.int (k : Int)), ⟨by rw [clrR_zero], hfd, hpv, rfl, rfl⟩, ?_, ?_, ?_⟩
        · rintro j ρ₂ μ₂ ⟨rfl, _⟩; exact MM_dom
        · rintro j x ρ₂ μ₂ hx ⟨rfl, hfd, hpv, hrw, hcl⟩
          obtain ⟨hj, rfl⟩ := rangeV_get hx
          have e0 : (0 : Int) + (j : Int) = (j : Int) := by omega
          rw [e0]
          clear hx e0
          refine ⟨_, Asg.name trivial (by kernel_rfl), ?_⟩
          refine Exs_cons (Ex_if (Ts_bool (And_cons (Ts_cmp ?_ (by kernel_rfl)))))
          refine Ev_name (by kernel_rfl) rfl (Ev_name (by kernel_rfl) hrw (op_ne ⟨_, rfl, fun e => ?_, fun e => ?_⟩))
          · have ej : j = piv.length := by simp at e; omega
            refine ⟨fun q => (nomatch q), fun _ => Exs_nil (Exs_nil ⟨?_, hfd, hpv, hrw, hcl⟩)⟩
            rw [clrR_skip (.inl ej)]
          · have ej : j ≠ piv.length := by
              intro q; subst q; simp at e
            refine And_cons (Ts_cmp ?_ (by kernel_rfl))
            have hself : clrR g2 piv.length k j j = g2 j := clrR_self (Nat.le_refl _)
            refine Ev_item (Ev_item (Ev_name (by kernel_rfl) hfd (Ev_name (by kernel_rfl) rfl ⟨_, j, _, rfl, MM_fa hne, rowsF_get hj, by omega, Ev_name (by kernel_rfl) hcl ⟨_, k, _, rfl, rowF_seq, range_get hk, by omega, ?_⟩⟩)) (by with_unfolding_all (intros; rfl))) (by with_unfolding_all (intros; rfl))
            rw [hself]
            refine Ev_R0 G (by kernel_rfl) (op_neRat ⟨_, rfl, fun e => ?_, fun e => ?_⟩)
            · refine ⟨fun q => (nomatch q), fun _ => Exs_nil (Exs_nil ⟨?_, hfd, hpv, hrw, hcl⟩)⟩
              rw [clrR_skip (.inr (by simpa using e))]
            · refine And_nil ⟨fun _ => ?_, fun q => (nomatch q)⟩
              refine Exs_cons (Ex_expr ?_ (by kernel_rfl) (by kernel_rfl))
              refine Ev_def G (ok_take_off P) (by kernel_rfl) ?_ (by kernel_rfl) (by kernel_rfl) (by kernel_rfl)
              refine Evs_cons (Ev_name (by kernel_rfl) hfd ?_) (by kernel_rfl)
              refine Evs_cons (Ev_name (by kernel_rfl) rfl ?_) (by kernel_rfl)
              refine Evs_cons (Ev_name (by kernel_rfl) hrw ?_) (by kernel_rfl)
              refine Evs_cons ?_ (by kernel_rfl)
              refine Ev_item (Ev_item (Ev_name (by kernel_rfl) hfd (Ev_name (by kernel_rfl) rfl ⟨_, j, _, rfl, MM_fa hne, rowsF_get hj, by omega, Ev_name (by kernel_rfl) hcl ⟨_, k, _, rfl, rowF_seq, range_get hk, by omega, ?_⟩⟩)) (by with_unfolding_all (intros; rfl))) (by with_unfolding_all (intros; rfl))
              rw [hself]
              refine Evs_nil (fn_take G ht (K₁ := Kk) (K₂ := 2 * Kk) (K₃ := Kk) (by omega) (by omega) hj hrow (MM_fa hne) (fun l hl => ?_) (fun l hl => ?_) ?_ (by omega) ?_)
              · rw [hself, hdo j ej]; exact hb1 j hj l hl
              · rw [clrR_row]; exact hb2 _ hrow l hl
              · rw [hdo j ej]; exact hb1 j hj k hk
              · rw [MM_set hne, hself, clrR_row]
                refine ⟨rfl, Exs_nil (Exs_nil ⟨?_, hfd, hpv, hrw, hcl⟩)⟩
                rw [clrR_step ej]
        · rintro ρ₂ μ₂ ⟨rfl, hfd, hpv, hrw, hcl⟩
          rw [rangeV_length] at *
          refine Exs_cons (Ex_expr ?_ (by kernel_rfl) (by kernel_rfl))
          refine Ev_append (Ev_name (by kernel_rfl) hpv ⟨pa, rfl, ⟨_, MM_pa⟩, Ev_name (by kernel_rfl) hcl ⟨_, MM_pa, by simp [pivV]; omega, ?_⟩⟩) (by kernel_rfl) (by kernel_rfl) (by kernel_rfl)
          have : pivV piv ++ [V.int (k : Int)] = pivV (piv ++ [k]) := by simp [pivV]
          rw [this, MM_piv]
          exact ⟨rfl, Exs_nil ⟨rfl, hfd, hpv⟩⟩
  · rintro ρ' μ' ⟨rfl, hfd, hpv⟩
    rw [rangeV_length] at *
    refine Exs_cons (Ex_ret (Ev_tuple ?_))
    refine Evs_cons (Ev_name (by kernel_rfl) hfd ?_) (by kernel_rfl)
    refine Evs_cons (Ev_name (by kernel_rfl) hpv ?_) (by kernel_rfl)
    exact Evs_nil ⟨by simp, fa, pa, _, _, μ, hfa, hpa', hfa, hpa', hne, rfl, rfl, h⟩
end

end Mine
end

section
open PySem PySem.Calls PyProof.Rows PySem.W
namespace Mine

local macro_rules
  | `(tactic| k_units) => `(tactic| repeat (first
    | with_reducible refine Ev_bin ?_
    | with_reducible refine Evs_cons ?_ (by kernel_rfl)
    | with_reducible refine Evs_nil ?_
    | with_reducible refine Ev_idx0 ?_
    | with_reducible refine Ev_idx1 ?_
    | with_reducible refine ⟨_, _, rfl, rfl, ?_⟩
    | ((with_reducible refine' Ev_name ?hk ?hv ?_ (by kernel_rfl) (by kernel_rfl)); (case hk => kernel_rfl); (case hv => exact rfl))
    | with_reducible refine Ev_int ?_
    | with_reducible refine Ev_tuple ?_
    | with_reducible refine Exs_cons ?_
    | with_reducible refine Ex_ret ?_
    | with_reducible refine Ev_cmp ?_ (by kernel_rfl)
    | with_reducible refine Ts_cmp ?_ (by kernel_rfl)
    | with_reducible refine Ex_if ?_
    | with_reducible refine op_add ?_
    | with_reducible refine op_sub ?_))

def flatF (c : Nat) (f : Nat → Nat → Rat) : Nat → Rat := fun l => f (l / c) (l % c)
def rowL (c : Nat) (v : Nat → Rat) : List V := (List.range c).map fun j => ratV (v j)
theorem rowL_len {c : Nat} {v : Nat → Rat} : (rowL c v).length = c := by simp [rowL]
theorem rowL_get {c i : Nat} {v : Nat → Rat} (h : i < c) : (rowL c v)[i]? = some (ratV (v i)) := range_get h
theorem rowF_L {c : Nat} {v : Nat → Rat} : rowF c v = .lst (rowL c v) := rfl
theorem rowL_set {c i : Nat} {v : Nat → Rat} {x : Rat} : (rowL c v).set i (ratV x) = rowL c fun k => if k = i then x else v k := by
  refine List.ext_getElem? fun k => ?_
  rw [List.getElem?_set]
  by_cases hk : i = k
  · subst hk
    by_cases hr : i < c
    · rw [if_pos rfl, rowL_len, if_pos hr, rowL_get hr, if_pos rfl]
    · rw [if_pos rfl, rowL_len, if_neg hr, List.getElem?_eq_none (by rw [rowL_len]; omega)]
  · rw [if_neg hk]
    by_cases hr : k < c
    · rw [rowL_get hr, rowL_get hr, if_neg (Ne.symm hk)]
    · rw [List.getElem?_eq_none (by rw [rowL_len]; omega), List.getElem?_eq_none (by rw [rowL_len]; omega)]
theorem rowL_base {m : Nat} : List.replicate m (ratV 0) ++ [ratV 1] = rowL (m + 1) fun l => if l = m then 1 else 0 := by
  refine List.ext_getElem? fun k => ?_
  by_cases hk : k < m
  · rw [List.getElem?_append_left (by simpa using hk), rowL_get (by omega), if_neg (by omega)]
    simp [hk]
  · by_cases hk' : k = m
    · subst hk'
      rw [List.getElem?_append_right (by simp), rowL_get (by omega), if_pos rfl]
      simp
    · rw [List.getElem?_eq_none (by simp; omega), List.getElem?_eq_none (by rw [rowL_len]; omega)]
theorem flat_step {c : Nat} {f : Nat → Nat → Rat} {k : Nat} : rowL (k * c) (flatF c f) ++ rowL c (f k) = rowL ((k + 1) * c) (flatF c f) := by
  refine List.ext_getElem? fun j => ?_
  have e : (k + 1) * c = k * c + c := by rw [Nat.add_mul, Nat.one_mul]
  by_cases hj : j < k * c
  · rw [List.getElem?_append_left (by rw [rowL_len]; exact hj), rowL_get hj, rowL_get (by omega)]
  · by_cases hj' : j < (k + 1) * c
    · rw [List.getElem?_append_right (by rw [rowL_len]; omega), rowL_len, rowL_get (by omega), rowL_get hj']
      have hc : 0 < c := by
        rcases Nat.eq_zero_or_pos c with h | h
        · subst h; omega
        · exact h
      have h1 : j = c * k + (j - k * c) := by rw [Nat.mul_comm]; omega
      have h2 : j / c = k := by rw [h1, Nat.mul_add_div hc, Nat.div_eq_of_lt (by omega)]; omega
      have h3 : j % c = j - k * c := by
        conv => lhs; rw [h1]
        rw [Nat.mul_add_mod, Nat.mod_eq_of_lt (by omega)]
      unfold flatF
      rw [h2, h3]
    · rw [List.getElem?_eq_none (by simp [rowL_len]; omega), List.getElem?_eq_none (by rw [rowL_len]; omega)]

/-- the relation, once k pivots are entered -/
def depK (g : Nat → Nat → Rat) (last : Nat) (piv : List Nat) : Nat → Nat → Rat
  | 0 => fun l => if l = last then 1 else 0
  | k + 1 => fun l => if some l = piv[k]? then - g k last else depK g last piv k l

section
variable {mg mb : Str → Option Value} {h₀ : Heap} {prog : Program} {w : World} {n : Nat} {μ : Mu} {P : Params} {env : Env} {ρ : Str → Option V} {r c : Nat} {f : Nat → Nat → Rat}

theorem fn_flat (G : Gd mg mb (KK P) h₀) (hr : (r + 1) * c ≤ 2 ^ 22) {Φ : V → Mu → Prop} (h : Φ (rowF (r * c) (flatF c f)) μ) : Fn h₀ prog w (n + 1) (.ref 186) μ [matF r c f] Φ := by
  refine Fn.freezeG ?_
  refine Fn_K G (ok_flat P) rfl fun L => ?_
  refine Exs_cons (Ex_assign (x := "found") (by kernel_rfl) (Ev_listM (Evs_nil ⟨by simp, fun fa hfa => ?_⟩)) (by kernel_rfl))
  refine Exs_cons (Ex_for (It_list (by kernel_rfl) ?_))
  k_units
  refine ⟨_, rfl, ?_⟩
  refine ⟨fun k ρ' μ' => μ' = muSet μ fa (rowL (k * c) (flatF c f)) ∧ ρ' "found" = some (.mt fa), ⟨by simp [rowL], rfl⟩, ?_, ?_, ?_⟩
  · rintro k ρ' μ' ⟨rfl, _⟩
    funext b; rw [eq_iff_iff, dom_set, dom_set]
  · rintro k x ρ' μ' hx ⟨rfl, hfd⟩
    obtain ⟨hk, rfl⟩ := range_get' hx
    refine ⟨_, Asg.name trivial (by kernel_rfl), ?_⟩
    refine Exs_cons (Ex_expr ?_ (by kernel_rfl) (by kernel_rfl))
    have hkc : (k + 1) * c ≤ (r + 1) * c := Nat.mul_le_mul_right _ (by omega)
    have e : (k + 1) * c = k * c + c := by rw [Nat.add_mul, Nat.one_mul]
    refine Ev_extend (Ev_name (by kernel_rfl) hfd ⟨fa, rfl, ⟨_, muSet_self⟩, Ev_name (by kernel_rfl) rfl ⟨_, rowL c (f k), muSet_self, rfl, by rw [rowL_len, rowL_len]; omega, ?_⟩⟩) (by kernel_rfl) (by kernel_rfl) (by kernel_rfl)
    rw [flat_step, muSet_set]
    exact ⟨rfl, Exs_nil ⟨rfl, hfd⟩⟩
  · rintro ρ' μ' ⟨rfl, hfd⟩
    refine Exs_cons (Ex_ret (Ev_name (by kernel_rfl) hfd ⟨fa, _, μ, hfa, hfa, rfl, rfl, ?_⟩))
    simp only [List.length_map, List.length_range]
    exact h

theorem pivV_eq {x : Nat} {l : List Nat} : ((pds (pivV l)).any fun y => PyData.eqv y (pd (.int (x : Int)))) = decide (x ∈ l) := by
  induction l with
  | nil => simp [pivV, pds]
  | cons a t ih =>
    have : pivV (a :: t) = .int (a : Int) :: pivV t := rfl
    rw [this]
    have e : pds (V.int (a : Int) :: pivV t) = pd (.int (a : Int)) :: pds (pivV t) := rfl
    rw [e, List.any_cons, ih]
    have e2 : PyData.eqv (pd (.int (a : Int))) (pd (.int (x : Int))) = decide (x = a) := by
      simp [pd, PyData.eqv]
      rw [Bool.eq_iff_iff]; simp; omega
    rw [e2]; simp
theorem pivV_isD {l : List Nat} : isDs (pivV l) = true := by
  induction l with
  | nil => rfl
  | cons a t ih => exact ih

theorem Fn.freezeO {f : Value} {xs : List V} {Φ : V → Mu → Prop} (h : Fn h₀ prog w n f μ xs fun v μ' => Φ v μ' ∨ ∃ a l μ₁, μ a = none ∧ μ₁ a = none ∧ v = .mt a ∧ μ' = muSet μ₁ a l ∧ Φ (.lst l) μ₁) : Fn h₀ prog w n f μ xs Φ := by
  intro A s E Q rm ex M as q hQ
  refine h A s E Q rm ex M as q fun r s' v μ' hh R q' => ?_
  rcases hh with hh | ⟨a, l, μ₁, hn, hn1, e1, e2, k⟩
  · exact hQ _ s' _ _ hh R q'
  subst e1 e2
  obtain rfl : r = .ref a := q'
  have := res_freeze (l := l) hn R muSet_self
  rw [muDel_set hn1] at this
  exact hQ _ s' _ _ k this.1 this.2

theorem echStep_lt {S : ES} {k : Nat} (h : ∀ x ∈ S.piv, x < k) : ∀ x ∈ (echStep r S k).piv, x < k + 1 := by
  unfold echStep
  split
  · exact fun x hx => by have := h x hx; omega
  · intro x hx
    rw [List.mem_append] at hx
    rcases hx with hx | hx
    · have := h x hx; omega
    · have : x = k := by simpa using hx
      omega
theorem ech_lt : ∀ k, ∀ x ∈ (ech r f k).piv, x < k
  | 0 => fun _ hx => nomatch hx
  | k + 1 => echStep_lt (ech_lt k)

theorem fn_dependence (G : Gd mg mb (KK P) h₀) (ht : prog.given.tree = none) {K m : Nat} (hf : ∀ i, i < m + 1 → ∀ l, l < c → Bd K (f i l)) (hK : ebd K (m + 1) ≤ 2 ^ 26) (hm : m + 1 ≤ 2 ^ 22) (hc0 : 0 < c) (hc : c ≤ 2 ^ 22) {S : ES} (eS : ech c (fun i l => f l i) (m + 1) = S)
    {Φ : V → Mu → Prop} (h1 : m ∈ S.piv → Φ .none μ) (h2 : m ∉ S.piv → Φ (rowF (m + 1) (depK S.g m S.piv S.piv.length)) μ) :
    Fn h₀ prog w (n + 6) (.ref 200) μ [matF (m + 1) c f] Φ := by
  have hS : AllBd K c (m + 1) (fun i l => f l i) := fun i hi l hl => hf l hl i hi
  have hlen := ech_len c (fun i l => f l i) (m + 1)
  have hlt := ech_lt (r := c) (f := fun i l => f l i) (m + 1)
  rw [eS] at hlen hlt
  refine Fn.freezeO ?_
  refine Fn_K G (ok_dependence P) rfl fun L => ?_
  refine Exs_cons (Ex_assign2 rfl ?_ (by kernel_rfl) (by kernel_rfl))
  refine Ev_def G (ok_echelon P) (by kernel_rfl) ?_ (by kernel_rfl) (by kernel_rfl) (by kernel_rfl)
  refine Evs_cons ?_ (by kernel_rfl)
  refine Ev_def G (ok_transposed P) (by kernel_rfl) ?_ (by kernel_rfl) (by kernel_rfl) (by kernel_rfl)
  k_units
  refine Fn.up (fn_transposed (n := n) G (by omega) (by omega) (by omega) ?_) (by omega)
  refine Evs_nil (fn_echelon G ht hS hK hc0 hc hm ?_)
  rw [eS]
  refine ⟨_, Asg.pair trivial trivial (by kernel_rfl) (by kernel_rfl), ?_⟩
  refine Exs_cons (Ex_assign (x := "last") (by kernel_rfl) ?_ (by kernel_rfl))
  refine Ev_bin ?_
  refine Ev_len G (by kernel_rfl) ?_ (by kernel_rfl) (by kernel_rfl)
  refine Ev_name (by kernel_rfl) rfl ⟨_, matF_seq, by simp; omega, Ev_int (op_sub ?_)⟩
  have e : ((((List.range (m + 1)).map fun i => rowF c (f i)).length : Nat) : Int) - 1 = (m : Int) := by simp
  rw [e]
  refine Exs_cons (Ex_if (Ts_cmp ?_ (by kernel_rfl)))
  refine Ev_name (by kernel_rfl) rfl (Ev_name (by kernel_rfl) rfl (op_in (by simp [isD]) pivV_isD (by simp [pd, PyData.depth]) ⟨_, rfl, fun q => ?_, fun q => ?_⟩))
  · rw [pivV_eq] at q
    exact Exs_cons (Ex_ret (Ev_none (.inl (h1 (by simpa using q)))))
  · rw [pivV_eq] at q
    have hq : m ∉ S.piv := by simpa using q
    refine Exs_nil (Exs_cons (Ex_assign (x := "found") (by kernel_rfl) ?_ (by kernel_rfl)))
    refine Ev_bin (Ev_bin ?_)
    refine Ev.freeze (l := [ratV 0]) (Ev_listM ?_) ?_
    · refine Evs_cons (Ev_R0 G (by kernel_rfl) (Evs_nil ⟨by simp, fun a ha => ⟨a, ha, rfl, rfl⟩⟩)) (by kernel_rfl)
    refine Ev_name (by kernel_rfl) rfl (op_mulL (by omega) ?_)
    refine Ev.freeze (l := [ratV 1]) (Ev_listM ?_) ?_
    · refine Evs_cons (Ev_R1 G (by kernel_rfl) (Evs_nil ⟨by simp, fun a ha => ⟨a, ha, rfl, rfl⟩⟩)) (by kernel_rfl)
    refine op_addM (by simp; omega) fun fa hfa => ?_
    rw [rowL_base]
    refine Exs_cons (Ex_for ?_)
    refine It_enum G (by kernel_rfl) (G.name (no_enumerate P)) Boot.«enumerate» ?_ (by decide) (by kernel_rfl) (by kernel_rfl) (by kernel_rfl)
    refine Ev_name (by kernel_rfl) rfl ⟨_, rfl, ?_⟩
    refine ⟨fun k ρ' μ' => μ' = muSet μ fa (rowL (m + 1) (depK S.g m S.piv k)) ∧ ρ' "found" = some (.mt fa) ∧ ρ' "reduced" = some (matF c (m + 1) S.g) ∧ ρ' "last" = some (.int (m : Int)), ⟨rfl, rfl, rfl, rfl⟩, ?_, ?_, ?_⟩
    · rintro k ρ' μ' ⟨rfl, _⟩
      funext b; rw [eq_iff_iff, dom_set, dom_set]
    · rintro k x ρ' μ' hx ⟨rfl, hfd, hrd, hla⟩
      obtain ⟨y, hy, rfl⟩ := enumV_get hx
      clear hx
      unfold pivV at hy
      rw [List.getElem?_map] at hy
      cases ep : S.piv[k]? with
      | none => rw [ep] at hy; cases hy
      | some col =>
      rw [ep] at hy
      cases hy
      have hk : k < S.piv.length := (List.getElem?_eq_some_iff.mp ep).1
      have hcol := hlt col (List.mem_of_getElem? ep)
      refine ⟨_, Asg.pair trivial trivial (by kernel_rfl) (by kernel_rfl), ?_⟩
      refine Exs_cons (Ex_setitem ?_ (by kernel_rfl))
      refine Ev_def G (ok_rneg P) (by kernel_rfl) ?_ (by kernel_rfl) (by kernel_rfl) (by kernel_rfl)
      refine Evs_cons ?_ (by kernel_rfl)
      refine Ev_item (Ev_item (Ev_name (by kernel_rfl) hrd (Ev_name (by kernel_rfl) rfl ⟨_, k, _, rfl, matF_seq, range_get (by omega), by omega, Ev_name (by kernel_rfl) hla ⟨_, m, _, rfl, rowF_seq, range_get (by omega), by omega, ?_⟩⟩)) (by with_unfolding_all (intros; rfl))) (by with_unfolding_all (intros; rfl))
      refine Evs_nil (Fn.up (fn_rneg (n := n) G ?_) (by omega))
      refine Ev_name (by kernel_rfl) hfd (Ev_name (by kernel_rfl) rfl ⟨fa, _, col, rfl, rfl, muSet_self, by rw [rowL_len]; exact hcol, by omega, ?_⟩)
      rw [rowL_set, muSet_set]
      refine Exs_nil ⟨?_, hfd, hrd, hla⟩
      congr 2
      funext l
      show _ = if some l = S.piv[k]? then _ else _
      rw [ep]
      by_cases hl : l = col
      · subst hl; simp
      · simp [hl]
    · rintro ρ' μ' ⟨rfl, hfd, _⟩
      refine Exs_cons (Ex_ret (Ev_name (by kernel_rfl) hfd (.inr ⟨fa, _, μ, hfa, hfa, rfl, rfl, ?_⟩)))
      have : (enumV (pivV S.piv)).length = S.piv.length := by rw [enumV_length]; simp [pivV]
      rw [this]
      exact h2 hq
end

end Mine
end

section
open PySem PySem.Calls PyProof.Rows PySem.W
namespace Mine

local macro_rules
  | `(tactic| k_units) => `(tactic| repeat (first
    | with_reducible refine Ev_bin ?_
    | with_reducible refine Evs_cons ?_ (by kernel_rfl)
    | with_reducible refine Evs_nil ?_
    | with_reducible refine Ev_idx0 ?_
    | with_reducible refine Ev_idx1 ?_
    | with_reducible refine ⟨_, _, rfl, rfl, ?_⟩
    | ((with_reducible refine' Ev_name ?hk ?hv ?_ (by kernel_rfl) (by kernel_rfl)); (case hk => kernel_rfl); (case hv => exact rfl))
    | with_reducible refine Ev_int ?_
    | with_reducible refine Ev_tuple ?_
    | with_reducible refine Exs_cons ?_
    | with_reducible refine Ex_ret ?_
    | with_reducible refine Ev_cmp ?_ (by kernel_rfl)
    | with_reducible refine Ts_cmp ?_ (by kernel_rfl)
    | with_reducible refine Ex_if ?_
    | with_reducible refine op_add ?_
    | with_reducible refine op_sub ?_))

def idF : Nat → Nat → Rat := fun i l => if i = l then 1 else 0
def mulF (c : Nat) (f g : Nat → Nat → Rat) : Nat → Nat → Rat := fun i l => sumTo c fun m => f i m * g m l
def horn (c : Nat) (f : Nat → Nat → Rat) (p : Nat → Rat) (m : Nat) : Nat → Nat → Nat → Rat
  | 0 => fun i l => idF i l * 0
  | k + 1 => fun i l => mulF c (horn c f p m k) f i l + idF i l * p (m - 1 - k)
def hb (J Kp : Nat) : Nat → Nat
  | 0 => 2
  | k + 1 => 3 * (hb J Kp k + J + 1) + Kp + 3

theorem idBd {r c : Nat} : AllBd 1 r c idF := fun i _ l _ => by
  unfold idF; split
  · exact ⟨by decide, by decide⟩
  · exact .zero (by omega)
theorem mulBd {c j k : Nat} {f g : Nat → Nat → Rat} (hc : c ≤ 3) (hf : AllBd j c c f) (hg : AllBd k c c g) : AllBd (1 + 3 * (j + k + 1)) c c (mulF c f g) := fun i hi l hl => by
  refine (Bd.sumTo (b := j + k) fun m hm => (hf i hi m hm).mul (hg m hm l hl)).mono ?_
  have : c * (j + k + 1) ≤ 3 * (j + k + 1) := Nat.mul_le_mul_right _ hc
  omega
theorem hornBd {c J Kp m : Nat} {f : Nat → Nat → Rat} {p : Nat → Rat} (hc : c ≤ 3) (hf : AllBd J c c f) (hp : ∀ l, l < m → Bd Kp (p l)) : ∀ k, k ≤ m → AllBd (hb J Kp k) c c (horn c f p m k)
  | 0, _ => fun i hi l hl => ((idBd i hi l hl).mul (Bd.zero (k := 1) (by omega))).mono (by unfold hb; omega)
  | k + 1, hk => fun i hi l hl => by
    refine ((mulBd hc (hornBd hc hf hp k (by omega)) hf i hi l hl).add ((idBd i hi l hl).mul (hp (m - 1 - k) (by omega)))).mono ?_
    show _ ≤ 3 * (hb J Kp k + J + 1) + Kp + 3
    omega
theorem hb_mono {J Kp : Nat} : ∀ {a b : Nat}, a ≤ b → hb J Kp a ≤ hb J Kp b := by
  intro a b h
  induction h with
  | refl => exact Nat.le_refl _
  | step _ ih => rename_i m _; refine Nat.le_trans ih ?_; show hb J Kp m ≤ 3 * (hb J Kp m + J + 1) + Kp + 3; omega

section
variable {mg mb : Str → Option Value} {h₀ : Heap} {prog : Program} {w : World} {n : Nat} {μ : Mu} {P : Params} {env : Env} {ρ : Str → Option V} {r c : Nat} {f : Nat → Nat → Rat}

theorem fn_poly (G : Gd mg mb (KK P) h₀) (ht : prog.given.tree = none) {J Kp m : Nat} {p : Nat → Rat} (hc0 : 0 < c) (hc : c ≤ 3) (hf : AllBd J c c f) (hp : ∀ l, l < m → Bd Kp (p l)) (hm : m ≤ 2 ^ 22) (hbd : hb J Kp m ≤ 2 ^ 24)
    {Φ : V → Mu → Prop} (h : Φ (matF c c (horn c f p m m)) μ) : Fn h₀ prog w (n + 6) (.ref 179) μ [rowF m p, matF c c f] Φ := by
  refine Fn_K G (ok_poly_of_matrix P) rfl fun L => ?_
  refine Exs_cons (Ex_assign (x := "found") (by kernel_rfl) ?_ (by kernel_rfl))
  refine Ev_def G (ok_mat_scale P) (by kernel_rfl) ?_ (by kernel_rfl) (by kernel_rfl) (by kernel_rfl)
  refine Evs_cons ?_ (by kernel_rfl)
  refine Ev_def G (ok_unit_matrix P) (by kernel_rfl) ?_ (by kernel_rfl) (by kernel_rfl) (by kernel_rfl)
  refine Evs_cons ?_ (by kernel_rfl)
  refine Ev_len G (by kernel_rfl) ?_ (by kernel_rfl) (by kernel_rfl)
  refine Ev_name (by kernel_rfl) rfl ⟨_, matF_seq, by simp; omega, ?_⟩
  have elen : (((List.range c).map fun i => rowF c (f i)).length : Int) = (c : Int) := by simp
  rw [elen]
  refine Evs_nil (Fn.up (fn_unit (n := n) G (c := c) (by omega) ?_) (by omega))
  refine Evs_cons (Ev_R0 G (by kernel_rfl) ?_) (by kernel_rfl)
  refine Evs_nil (Fn.up (fn_scale (n := n) G ht (j := 1) (k := 1) idBd (Bd.zero (by omega)) (by omega) (by omega) (by omega) ?_) (by omega))
  refine Exs_cons (Ex_for (It_list (by kernel_rfl) ?_))
  refine Ev_rev ?_ (by with_unfolding_all (intros; rfl))
  refine Ev_name (by kernel_rfl) rfl ?_
  refine Ev_un (Ev_int (op_neg ⟨rfl, rowL m p, rfl, by rw [rowL_len]; omega, _, rfl, ?_⟩))
  refine ⟨fun k ρ' μ' => μ' = μ ∧ ρ' "found" = some (matF c c (horn c f p m k)) ∧ ρ' "a" = some (matF c c f), ⟨rfl, rfl, rfl⟩, ?_, ?_, ?_⟩
  · rintro k ρ' μ' ⟨rfl, _⟩; rfl
  · rintro k x ρ' μ' hx ⟨rfl, hfd, ha⟩
    have hk : k < m := by
      have := (List.getElem?_eq_some_iff.mp hx).1
      rw [List.length_reverse, rowL_len] at this; exact this
    have hx' : x = ratV (p (m - 1 - k)) := by
      rw [List.getElem?_reverse (by rw [rowL_len]; exact hk), rowL_len, rowL_get (by omega)] at hx
      cases hx; rfl
    subst hx'
    clear hx
    have hH := hornBd hc hf hp k (by omega)
    have hk1 := hb_mono (J := J) (Kp := Kp) (a := k + 1) (b := m) (by omega)
    have hk2 : hb J Kp (k + 1) = 3 * (hb J Kp k + J + 1) + Kp + 3 := rfl
    have hcm : c * (hb J Kp k + J + 1) ≤ 3 * (hb J Kp k + J + 1) := Nat.mul_le_mul_right _ hc
    refine ⟨_, Asg.name trivial (by kernel_rfl), ?_⟩
    refine Exs_cons (Ex_assign (x := "found") (by kernel_rfl) ?_ (by kernel_rfl))
    refine Ev_def G (ok_mat_add P) (by kernel_rfl) ?_ (by kernel_rfl) (by kernel_rfl) (by kernel_rfl)
    refine Evs_cons ?_ (by kernel_rfl)
    refine Ev_def G (ok_mat_mul P) (by kernel_rfl) ?_ (by kernel_rfl) (by kernel_rfl) (by kernel_rfl)
    refine Evs_cons (Ev_name (by kernel_rfl) hfd ?_) (by kernel_rfl)
    refine Evs_cons (Ev_name (by kernel_rfl) ha ?_) (by kernel_rfl)
    refine Evs_nil (fn_mul G ht hH hf (by omega) hc0 (by omega) hc0 (by omega) (by omega) ?_)
    refine Evs_cons ?_ (by kernel_rfl)
    refine Ev_def G (ok_mat_scale P) (by kernel_rfl) ?_ (by kernel_rfl) (by kernel_rfl) (by kernel_rfl)
    refine Evs_cons ?_ (by kernel_rfl)
    refine Ev_def G (ok_unit_matrix P) (by kernel_rfl) ?_ (by kernel_rfl) (by kernel_rfl) (by kernel_rfl)
    refine Evs_cons ?_ (by kernel_rfl)
    refine Ev_len G (by kernel_rfl) ?_ (by kernel_rfl) (by kernel_rfl)
    refine Ev_name (by kernel_rfl) ha ⟨_, matF_seq, by simp; omega, ?_⟩
    rw [elen]
    refine Evs_nil (Fn.up (fn_unit (n := n) G (c := c) (by omega) ?_) (by omega))
    refine Evs_cons (Ev_name (by kernel_rfl) rfl ?_) (by kernel_rfl)
    refine Evs_nil (Fn.up (fn_scale (n := n) G ht (j := 1) (k := Kp) idBd (hp _ (by omega)) (by omega) (by omega) (by omega) ?_) (by omega))
    refine Evs_nil (Fn.up (fn_add (n := n) G ht (j := 1 + 3 * (hb J Kp k + J + 1)) (k := 1 + Kp) (mulBd hc hH hf) (fun i hi l hl => (idBd i hi l hl).mul (hp _ (by omega))) (by omega) hc0 (by omega) (by omega) ?_) (by omega))
    exact Exs_nil ⟨rfl, rfl, ha⟩
  · rintro ρ' μ' ⟨rfl, hfd, _⟩
    rw [List.length_reverse, rowL_len] at *
    exact Exs_cons (Ex_ret (Ev_name (by kernel_rfl) hfd h))
end

end Mine
end

section
open PySem PySem.Calls PyProof.Rows PySem.W
namespace Mine

local macro_rules
  | `(tactic| k_units) => `(tactic| repeat (first
    | with_reducible refine Ev_bin ?_
    | with_reducible refine Evs_cons ?_ (by kernel_rfl)
    | with_reducible refine Evs_nil ?_
    | with_reducible refine Ev_idx0 ?_
    | with_reducible refine Ev_idx1 ?_
    | with_reducible refine ⟨_, _, rfl, rfl, ?_⟩
    | ((with_reducible refine' Ev_name ?hk ?hv ?_ (by kernel_rfl) (by kernel_rfl)); (case hk => kernel_rfl); (case hv => exact rfl))
    | with_reducible refine Ev_int ?_
    | with_reducible refine Ev_tuple ?_
    | with_reducible refine Exs_cons ?_
    | with_reducible refine Ex_ret ?_
    | with_reducible refine Ev_cmp ?_ (by kernel_rfl)
    | with_reducible refine Ts_cmp ?_ (by kernel_rfl)
    | with_reducible refine Ex_if ?_
    | with_reducible refine op_add ?_
    | with_reducible refine op_sub ?_))

def cb (J : Nat) : Nat → Nat
  | 0 => 1
  | k + 1 => (1 + 3 * (J + cb J k + 1)) + (1 + 3 * ((1 + 3 * (J + cb J k + 1)) + 1)) + 6
theorem cb_mono {J : Nat} : ∀ {a b : Nat}, a ≤ b → cb J a ≤ cb J b := by
  intro a b h
  induction h with
  | refl => exact Nat.le_refl _
  | step _ ih => rename_i m _; refine Nat.le_trans ih ?_; show cb J m ≤ (1 + 3 * (J + cb J m + 1)) + (1 + 3 * ((1 + 3 * (J + cb J m + 1)) + 1)) + 6; omega

section
variable {mg mb : Str → Option Value} {h₀ : Heap} {prog : Program} {w : World} {n : Nat} {μ : Mu} {P : Params} {env : Env} {ρ : Str → Option V} {r c : Nat} {f : Nat → Nat → Rat}

theorem fn_charpoly (G : Gd mg mb (KK P) h₀) (ht : prog.given.tree = none) {J : Nat} (hc0 : 0 < c) (hc : c ≤ 3) (hf : AllBd J c c f) (hbd : cb J c ≤ 2 ^ 24)
    {Φ : V → Mu → Prop} (h : ∀ l, l.length = c + 1 → Φ (.lst l) μ) : Fn h₀ prog w (n + 6) (.ref 172) μ [matF c c f] Φ := by
  refine Fn.freezeG ?_
  refine Fn_K G (ok_charpoly P) rfl fun L => ?_
  have elen : (((List.range c).map fun i => rowF c (f i)).length : Int) = (c : Int) := by simp
  refine Exs_cons (Ex_assign (x := "n") (by kernel_rfl) ?_ (by kernel_rfl))
  refine Ev_len G (by kernel_rfl) ?_ (by kernel_rfl) (by kernel_rfl)
  refine Ev_name (by kernel_rfl) rfl ⟨_, matF_seq, by simp; omega, ?_⟩
  rw [elen]
  refine Exs_cons (Ex_expr ?_ (by kernel_rfl) (by kernel_rfl))
  refine Ev_def G (ok_need_shape P) (by kernel_rfl) ?_ (by kernel_rfl) (by kernel_rfl) (by kernel_rfl)
  refine Evs_cons (Ev_cmp ?_ (by kernel_rfl)) (by kernel_rfl)
  refine Ev_name (by kernel_rfl) rfl ?_
  refine Ev_idx1 (Ev_def G (ok_shape P) (by kernel_rfl) ?_ (by kernel_rfl) (by kernel_rfl) (by kernel_rfl))
  refine Evs_cons (Ev_name (by kernel_rfl) rfl ?_) (by kernel_rfl)
  refine Evs_nil (fn_shapeF G hc0 (by omega) (by omega) ⟨_, _, rfl, rfl, op_eq ?_⟩)
  have e : ((c : Int) == (c : Int)) = true := by simp
  rw [e]
  refine Evs_cons (Ev_str ?_) (by kernel_rfl)
  refine Evs_nil (fn_need G ⟨rfl, ?_⟩)
  refine Exs_cons (Ex_assign2s (by kernel_rfl) (by kernel_rfl) ?_ (by kernel_rfl) (by kernel_rfl))
  refine Ev_tuple (Evs_cons (Ev_listM ?_) (by kernel_rfl))
  refine Evs_cons (Ev_R1 G (by kernel_rfl) (Evs_nil ⟨by simp, fun fa hfa => ?_⟩)) (by kernel_rfl)
  refine Evs_cons ?_ (by kernel_rfl)
  refine Ev_def G (ok_unit_matrix P) (by kernel_rfl) ?_ (by kernel_rfl) (by kernel_rfl) (by kernel_rfl)
  refine Evs_cons (Ev_name (by kernel_rfl) rfl ?_) (by kernel_rfl)
  refine Evs_nil (Fn.up (fn_unit (n := n) G (c := c) (by omega) ?_) (by omega))
  refine Evs_nil ⟨by simp, _, _, rfl, ?_⟩
  refine Exs_cons (Ex_for ?_)
  refine It_range2 G (by kernel_rfl) (by kernel_rfl) (G.name (no_range P)) Boot.«range» ?_ (by decide) (by kernel_rfl) (by kernel_rfl) (by kernel_rfl) (by kernel_rfl) (by kernel_rfl)
  refine Ev_int (Ev_bin (Ev_name (by kernel_rfl) rfl (Ev_int (op_add ⟨_, _, rfl, rfl, by omega, by omega, by omega, by omega, ?_⟩))))
  have e2 : ((c : Int) + 1 - 1).toNat = c := by omega
  rw [e2]
  refine ⟨fun k ρ' μ' => ∃ l F, l.length = k + 1 ∧ μ' = muSet μ fa l ∧ ρ' "found" = some (.mt fa) ∧ ρ' "power" = some (matF c c F) ∧ AllBd (cb J k) c c F ∧ ρ' "a" = some (matF c c f) ∧ ρ' "n" = some (.int (c : Int)), ⟨[ratV 1], idF, rfl, rfl, rfl, rfl, idBd, rfl, rfl⟩, ?_, ?_, ?_⟩
  · rintro k ρ' μ' ⟨l, F, _, rfl, _⟩
    funext b; rw [eq_iff_iff, dom_set, dom_set]
  · rintro k x ρ' μ' hx ⟨l, F, hl, rfl, hfd, hpw, hF, ha, hn⟩
    obtain ⟨hk, rfl⟩ := rangeV_get hx
    clear hx
    have hk1 := cb_mono (J := J) (a := k + 1) (b := c) (by omega)
    have hk2 : cb J (k + 1) = (1 + 3 * (J + cb J k + 1)) + (1 + 3 * ((1 + 3 * (J + cb J k + 1)) + 1)) + 6 := rfl
    have hcm : c * (J + cb J k + 1) ≤ 3 * (J + cb J k + 1) := Nat.mul_le_mul_right _ hc
    have hct : c * ((1 + 3 * (J + cb J k + 1)) + 1) ≤ 3 * ((1 + 3 * (J + cb J k + 1)) + 1) := Nat.mul_le_mul_right _ hc
    have hM := mulBd hc hf hF
    refine ⟨_, Asg.name trivial (by kernel_rfl), ?_⟩
    refine Exs_cons (Ex_assign (x := "power") (by kernel_rfl) ?_ (by kernel_rfl))
    refine Ev_def G (ok_mat_mul P) (by kernel_rfl) ?_ (by kernel_rfl) (by kernel_rfl) (by kernel_rfl)
    refine Evs_cons (Ev_name (by kernel_rfl) ha ?_) (by kernel_rfl)
    refine Evs_cons (Ev_name (by kernel_rfl) hpw ?_) (by kernel_rfl)
    refine Evs_nil (fn_mul G ht hf hF (by omega) hc0 (by omega) hc0 (by omega) (by omega) ?_)
    refine Exs_cons (Ex_assign (x := "number") (by kernel_rfl) ?_ (by kernel_rfl))
    refine Ev_def G (ok_rneg P) (by kernel_rfl) ?_ (by kernel_rfl) (by kernel_rfl) (by kernel_rfl)
    refine Evs_cons ?_ (by kernel_rfl)
    refine Ev_def G (ok_rdiv P) (by kernel_rfl) ?_ (by kernel_rfl) (by kernel_rfl) (by kernel_rfl)
    refine Evs_cons ?_ (by kernel_rfl)
    refine Ev_def G (ok_trace P) (by kernel_rfl) ?_ (by kernel_rfl) (by kernel_rfl) (by kernel_rfl)
    refine Evs_cons (Ev_name (by kernel_rfl) rfl ?_) (by kernel_rfl)
    refine Evs_nil (Fn.up (fn_trace (n := n) G ht (f := mulF c f F) (fun i hi => hM i hi i hi) (by omega) (by omega) ?_) (by omega))
    refine Evs_cons (Ev_tuple (Evs_cons (Ev_name (by kernel_rfl) rfl (Evs_cons (Ev_int (Evs_nil ⟨by simp, ?_⟩)) (by kernel_rfl))) (by kernel_rfl))) (by kernel_rfl)
    have eT : V.tup [.int (1 + (k : Int)), .int 1] = ratV ((1 + (k : Int) : Int) : Rat) := ratV_int _
    rw [eT]
    have bT : Bd (1 + 3 * ((1 + 3 * (J + cb J k + 1)) + 1)) (sumTo c fun k_1 => mulF c f F k_1 k_1) := (Bd.sumTo (b := 1 + 3 * (J + cb J k + 1)) fun i hi => hM i hi i hi).mono (by omega)
    have bS : Bd 2 ((1 + (k : Int) : Int) : Rat) := .ofInt (by omega) (by omega)
    have hS0 : ((1 + (k : Int) : Int) : Rat) ≠ 0 := fun q => by
      have := Rat.intCast_eq_zero_iff.mp q
      omega
    refine Evs_nil (Fn.up (fn_rdiv (n := n) G ht bT bS hS0 (by omega) ?_) (by omega))
    refine Evs_nil (Fn.up (fn_rneg (n := n) G ?_) (by omega))
    have bN := (bT.div bS hS0).neg
    generalize -((sumTo c fun k_1 => mulF c f F k_1 k_1) / ((1 + (k : Int) : Int) : Rat)) = q at bN ⊢
    refine Exs_cons (Ex_expr ?_ (by kernel_rfl) (by kernel_rfl))
    refine Ev_append (Ev_name (by kernel_rfl) hfd ⟨fa, rfl, ⟨_, muSet_self⟩, Ev_name (by kernel_rfl) rfl ⟨_, muSet_self, by omega, rfl, ?_⟩⟩) (by kernel_rfl) (by kernel_rfl) (by kernel_rfl)
    rw [muSet_set]
    refine Exs_cons (Ex_assign (x := "power") (by kernel_rfl) ?_ (by kernel_rfl))
    refine Ev_def G (ok_mat_add P) (by kernel_rfl) ?_ (by kernel_rfl) (by kernel_rfl) (by kernel_rfl)
    refine Evs_cons (Ev_name (by kernel_rfl) rfl ?_) (by kernel_rfl)
    refine Evs_cons ?_ (by kernel_rfl)
    refine Ev_def G (ok_mat_scale P) (by kernel_rfl) ?_ (by kernel_rfl) (by kernel_rfl) (by kernel_rfl)
    refine Evs_cons ?_ (by kernel_rfl)
    refine Ev_def G (ok_unit_matrix P) (by kernel_rfl) ?_ (by kernel_rfl) (by kernel_rfl) (by kernel_rfl)
    refine Evs_cons (Ev_name (by kernel_rfl) hn ?_) (by kernel_rfl)
    refine Evs_nil (Fn.up (fn_unit (n := n) G (c := c) (by omega) ?_) (by omega))
    refine Evs_cons (Ev_name (by kernel_rfl) rfl ?_) (by kernel_rfl)
    refine Evs_nil (Fn.up (fn_scale (n := n) G ht (j := 1) idBd bN (by omega) (by omega) (by omega) ?_) (by omega))
    refine Evs_nil (Fn.up (fn_add (n := n) G ht (f := mulF c f F) hM (fun i hi l hl => (idBd i hi l hl).mul bN) (by omega) hc0 (by omega) (by omega) ?_) (by omega))
    refine Exs_nil ⟨l ++ [ratV q], _, by simp [hl], rfl, hfd, rfl, ?_, ha, hn⟩
    intro i hi l hl
    exact ((hM i hi l hl).add ((idBd i hi l hl).mul bN)).mono (by omega)
  · rintro ρ' μ' ⟨l, F, hl, rfl, hfd, _⟩
    rw [rangeV_length] at *
    refine Exs_cons (Ex_expr ?_ (by kernel_rfl) (by kernel_rfl))
    refine Ev_reverse (Ev_name (by kernel_rfl) hfd ⟨fa, l, rfl, muSet_self, by omega, rfl, ?_⟩) (by kernel_rfl) (by kernel_rfl)
    rw [muSet_set]
    exact Exs_cons (Ex_ret (Ev_name (by kernel_rfl) hfd ⟨fa, _, μ, hfa, hfa, rfl, rfl, h _ (by simp [hl])⟩))
end

end Mine
end

section
open PySem PySem.Calls PyProof.Rows PySem.W
namespace Mine

local macro_rules
  | `(tactic| k_units) => `(tactic| repeat (first
    | with_reducible refine Ev_bin ?_
    | with_reducible refine Evs_cons ?_ (by kernel_rfl)
    | with_reducible refine Evs_nil ?_
    | with_reducible refine Ev_idx0 ?_
    | with_reducible refine Ev_idx1 ?_
    | with_reducible refine ⟨_, _, rfl, rfl, ?_⟩
    | ((with_reducible refine' Ev_name ?hk ?hv ?_ (by kernel_rfl) (by kernel_rfl)); (case hk => kernel_rfl); (case hv => exact rfl))
    | with_reducible refine Ev_int ?_
    | with_reducible refine Ev_tuple ?_
    | with_reducible refine Exs_cons ?_
    | with_reducible refine Ex_ret ?_
    | with_reducible refine Ev_cmp ?_ (by kernel_rfl)
    | with_reducible refine Ts_cmp ?_ (by kernel_rfl)
    | with_reducible refine Ex_if ?_
    | with_reducible refine op_add ?_
    | with_reducible refine op_sub ?_))

def emp : Mu := fun _ => none
theorem not_emp {b : Addr} : ¬ dom emp b := fun ⟨_, e⟩ => nomatch e

def NoAl (l : List V) (v : V) : Prop := ∀ (h : Heap) (a : Addr) (vs : Array Value) (k : Nat) (r : Value), h.get? a = some (lstObj vs k) → Reps (dom emp) h l vs.toList → Rep (dom emp) h v r → Rep (dom (muSet emp a l)) h v r
theorem NoAl.none {l : List V} : NoAl l .none := fun _ _ _ _ _ _ _ q => q

theorem Reps.map_ {X X' : Addr → Prop} {h : Heap} : ∀ {l : List V} {vs : List Value}, (∀ x ∈ l, ∀ r, Rep X h x r → Rep X' h x r) → Reps X h l vs → Reps X' h l vs
  | [], _, _, q => q
  | x :: _, _, k, ⟨r, rs, e, q, qs⟩ => ⟨r, rs, e, k x List.mem_cons_self r q, Reps.map_ (fun y hy => k y (List.mem_cons_of_mem _ hy)) qs⟩

theorem lst_ne_tup {a c : Array Value} {b d : Nat} : some (lstObj a b) ≠ some (tupObj c d) := fun e => by
  have := congrArg (fun o => o.map (·.cls)) e
  simp [lstObj, tupObj] at this
theorem NoAl.row {m c m' : Nat} {f : Nat → Nat → Rat} {v : Nat → Rat} (hm : 0 < m) (hm' : 0 < m') : NoAl (rowsF m c f) (rowF m' v) := by
  intro h a vs k r g qs q
  obtain ⟨b, ws, k', rfl, _, gb, q⟩ := q
  have hab : b ≠ a := fun e => by
    subst e
    rw [g] at gb
    cases gb
    obtain ⟨r0, e0, q0⟩ := Reps.get qs (rowsF_get hm)
    obtain ⟨r1, e1, q1⟩ := Reps.get q (rowL_get hm')
    rw [e0] at e1; cases e1
    obtain ⟨x, _, _, rfl, _, gx, _⟩ := q0
    obtain ⟨y, _, _, ey, _, gy, _⟩ := q1
    cases ey
    rw [gx] at gy; exact lst_ne_tup gy
  refine ⟨b, ws, k', rfl, fun d => (dom_set.mp d).elim hab not_emp, gb, Reps.map_ (fun x hx r qr => ?_) q⟩
  obtain ⟨j, _, rfl⟩ := List.mem_map.mp hx
  obtain ⟨t, us, k2, rfl, _, gt, qt⟩ := qr
  exact ⟨t, us, k2, rfl, fun d => (dom_set.mp d).elim (fun e => by subst e; rw [g] at gt; exact lst_ne_tup gt) not_emp, gt, qt⟩

section
variable {mg mb : Str → Option Value} {h₀ : Heap} {prog : Program} {w : World} {n : Nat} {μ : Mu} {P : Params} {env : Env} {ρ : Str → Option V} {r c : Nat} {f : Nat → Nat → Rat}

/-- a list that may change, handed to a call as one that does not -/
theorem Fn.thaw {fn : Value} {a : Addr} {l : List V} {Φ : V → Mu → Prop} (h : Fn h₀ prog w n fn emp [.lst l] fun v μ' => μ' = emp ∧ NoAl l v ∧ Φ v (muSet emp a l)) : Fn h₀ prog w n fn (muSet emp a l) [.mt a] Φ := by
  intro A s E Q rm ex M as q hQ
  obtain ⟨r, rs, rfl, qr, q⟩ := q
  obtain rfl := q.nil_inv
  obtain rfl : r = .ref a := qr
  obtain ⟨vs, k, g, qs⟩ := M.at_ a l muSet_self
  have T : Trans (dom (muSet emp a l)) s.heap (dom emp) s.heap := fun b o _ _ g => ⟨not_emp, g⟩
  refine h A s E _ rm ex ⟨fun _ _ e => (nomatch e), fun b d => absurd d not_emp⟩ _ (Reps.cons ⟨a, vs, k, rfl, not_emp, g, Reps.mono T _ _ qs⟩ Reps.nil) fun r s' v μ' hh R q' => ?_
  obtain ⟨rfl, na, p⟩ := hh
  have g' := R.keep a _ not_emp g
  have T' : Trans (dom (muSet emp a l)) s.heap (dom (muSet emp a l)) s'.heap := fun b o _ nx g => ⟨nx, R.keep b o not_emp g⟩
  have T'' : Trans (dom (muSet emp a l)) s.heap (dom emp) s'.heap := fun b o _ nx g => ⟨not_emp, R.keep b o not_emp g⟩
  refine hQ r s' v _ p ⟨R.same, fun b o _ g => R.keep b o not_emp g, ⟨fun b l' e => ?_, M.new⟩, fun b d => d, fun b d nd => absurd d nd⟩ (na _ _ _ _ _ g' (Reps.mono T'' _ _ qs) q')
  unfold muSet at e
  split at e
  · rename_i e'; subst e'; cases e
    exact ⟨vs, k, g', Reps.mono T' _ _ qs⟩
  · cases e

/-- a list that nothing reaches any more -/
theorem Fn.drop {fn : Value} {xs : List V} {Φ : V → Mu → Prop} (h : Fn h₀ prog w n fn μ xs fun v μ' => ∃ a l μ₁, μ a = none ∧ μ₁ a = none ∧ μ' = muSet μ₁ a l ∧ Φ v μ₁) : Fn h₀ prog w n fn μ xs Φ := by
  intro A s E Q rm ex M as q hQ
  refine h A s E Q rm ex M as q fun r s' v μ' ⟨a, l, μ₁, hn, hn1, e2, k⟩ R q' => ?_
  subst e2
  have := (res_freeze (l := l) hn R muSet_self).1
  have q2 := Rep.mono (muDel_trans (a := a)) _ _ q'
  rw [muDel_set hn1] at this q2
  exact hQ _ s' _ _ k this q2

def pw (c : Nat) (f : Nat → Nat → Rat) : Nat → Nat → Nat → Rat
  | 0 => idF
  | k + 1 => mulF c (pw c f k) f
def pwb (J : Nat) : Nat → Nat
  | 0 => 1
  | k + 1 => 1 + 3 * (pwb J k + J + 1)
theorem pwb_mono {J : Nat} : ∀ {a b : Nat}, a ≤ b → pwb J a ≤ pwb J b := by
  intro a b h
  induction h with
  | refl => exact Nat.le_refl _
  | step _ ih => rename_i m _; refine Nat.le_trans ih ?_; show pwb J m ≤ 1 + 3 * (pwb J m + J + 1); omega
theorem pwBd {J : Nat} (hc : c ≤ 3) (hf : AllBd J c c f) : ∀ k, AllBd (pwb J k) c c (pw c f k)
  | 0 => idBd
  | k + 1 => mulBd hc (pwBd hc hf k) hf
/-- the columns: the powers, laid flat -/
def colT (c : Nat) (f : Nat → Nat → Rat) : Nat → Nat → Rat := fun i l => flatF c (pw c f l) i
def echT (c : Nat) (f : Nat → Nat → Rat) (k : Nat) : ES := ech (c * c) (colT c f) k
theorem ebd_le {K K' : Nat} (h : K ≤ K') : ∀ k, ebd K k ≤ ebd K' k
  | 0 => h
  | k + 1 => by have := ebd_le h k; show 4 * ebd K k + 1 ≤ 4 * ebd K' k + 1; omega

theorem fn_minpoly (G : Gd mg mb (KK P) h₀) (ht : prog.given.tree = none) {J : Nat} (hc0 : 0 < c) (hc : c ≤ 3) (hf : AllBd J c c f) (hbd : ebd (pwb J c) (c + 1) ≤ 2 ^ 24) (hN : ∃ k, k ≤ c ∧ k ∉ (echT c f (k + 1)).piv)
    {Φ : V → Mu → Prop} (h : ∀ k, k ≤ c → (∀ j, j < k → j ∈ (echT c f (j + 1)).piv) → k ∉ (echT c f (k + 1)).piv →
      Φ (rowF (k + 1) (depK (echT c f (k + 1)).g k (echT c f (k + 1)).piv (echT c f (k + 1)).piv.length)) emp) : Fn h₀ prog w (n + 7) (.ref 193) emp [matF c c f] Φ := by
  have elen : (((List.range c).map fun i => rowF c (f i)).length : Int) = (c : Int) := by simp
  refine Fn.drop ?_
  refine Fn_K G (ok_minpoly P) rfl fun L => ?_
  refine Exs_cons (Ex_expr ?_ (by kernel_rfl) (by kernel_rfl))
  refine Ev_def G (ok_need_shape P) (by kernel_rfl) ?_ (by kernel_rfl) (by kernel_rfl) (by kernel_rfl)
  refine Evs_cons (Ev_cmp ?_ (by kernel_rfl)) (by kernel_rfl)
  refine Ev_len G (by kernel_rfl) ?_ (by kernel_rfl) (by kernel_rfl)
  refine Ev_name (by kernel_rfl) rfl ⟨_, matF_seq, by simp; omega, ?_⟩
  rw [elen]
  refine Ev_idx1 (Ev_def G (ok_shape P) (by kernel_rfl) ?_ (by kernel_rfl) (by kernel_rfl) (by kernel_rfl))
  refine Evs_cons (Ev_name (by kernel_rfl) rfl ?_) (by kernel_rfl)
  refine Evs_nil (fn_shapeF G hc0 (by omega) (by omega) ⟨_, _, rfl, rfl, op_eq ?_⟩)
  have e : ((c : Int) == (c : Int)) = true := by simp
  rw [e]
  refine Evs_cons (Ev_str ?_) (by kernel_rfl)
  refine Evs_nil (fn_need G ⟨rfl, ?_⟩)
  refine Exs_cons (Ex_assign2s (by kernel_rfl) (by kernel_rfl) ?_ (by kernel_rfl) (by kernel_rfl))
  refine Ev_tuple (Evs_cons (Ev_listM ?_) (by kernel_rfl))
  refine Evs_nil ⟨by simp, fun ra hra => ?_⟩
  refine Evs_cons ?_ (by kernel_rfl)
  refine Ev_def G (ok_unit_matrix P) (by kernel_rfl) ?_ (by kernel_rfl) (by kernel_rfl) (by kernel_rfl)
  refine Evs_cons ?_ (by kernel_rfl)
  refine Ev_len G (by kernel_rfl) ?_ (by kernel_rfl) (by kernel_rfl)
  refine Ev_name (by kernel_rfl) rfl ⟨_, matF_seq, by simp; omega, ?_⟩
  rw [elen]
  refine Evs_nil (Fn.up (fn_unit (n := n) G (c := c) (by omega) ?_) (by omega))
  refine Evs_nil ⟨by simp, _, _, rfl, ?_⟩
  have hcc : c * c ≤ 9 := Nat.mul_le_mul hc hc
  have hcc0 : 0 < c * c := Nat.mul_pos hc0 hc0
  refine Exs_cons (Ex_while (fun m ρ' μ' => ∃ k, m = c - k ∧ k ≤ c ∧ (∀ j, j < k → j ∈ (echT c f (j + 1)).piv) ∧ μ' = muSet emp ra (rowsF k (c * c) fun j => flatF c (pw c f j)) ∧ ρ' "rows" = some (.mt ra) ∧ ρ' "power" = some (matF c c (pw c f k)) ∧ ρ' "a" = some (matF c c f)) c ⟨0, rfl, Nat.zero_le _, fun j hj => (nomatch hj), rfl, rfl, rfl, rfl⟩ ?_)
  rintro m ρ' μ' ⟨k, rfl, hk, hall, rfl, hrw, hpw, ha⟩
  refine Ts_val (Ev_bool ⟨true, rfl, fun _ => ?_, fun q => (nomatch q)⟩) (by kernel_rfl)
  have hck : (c + 1) * c ≤ 2 ^ 22 := by
    have : (c + 1) * c ≤ 4 * 3 := Nat.mul_le_mul (by omega) hc
    omega
  refine Exs_cons (Ex_expr ?_ (by kernel_rfl) (by kernel_rfl))
  refine Ev_append (Ev_name (by kernel_rfl) hrw ⟨ra, rfl, ⟨_, muSet_self⟩, ?_⟩) (by kernel_rfl) (by kernel_rfl) (by kernel_rfl)
  refine Ev_def G (ok_flat P) (by kernel_rfl) ?_ (by kernel_rfl) (by kernel_rfl) (by kernel_rfl)
  refine Evs_cons (Ev_name (by kernel_rfl) hpw ?_) (by kernel_rfl)
  refine Evs_nil (Fn.up (fn_flat (n := n) G hck ?_) (by omega))
  refine ⟨_, muSet_self, by rw [rowsF_len]; omega, rfl, ?_⟩
  have er : rowsF k (c * c) (fun j => flatF c (pw c f j)) ++ [rowF (c * c) (flatF c (pw c f k))] = rowsF (k + 1) (c * c) fun j => flatF c (pw c f j) := by
    unfold rowsF; rw [List.range_succ, List.map_append]; rfl
  rw [muSet_set, er]
  refine Exs_cons (Ex_assign (x := "told") (by kernel_rfl) ?_ (by kernel_rfl))
  refine Ev_def G (ok_dependence P) (by kernel_rfl) ?_ (by kernel_rfl) (by kernel_rfl) (by kernel_rfl)
  refine Evs_cons (Ev_name (by kernel_rfl) hrw ?_) (by kernel_rfl)
  have hB : ebd (pwb J c) (k + 1) ≤ 2 ^ 26 := Nat.le_trans (ebd_mono (b := c + 1) (by omega)) (by omega)
  refine Evs_nil (Fn.thaw (fn_dependence (S := echT c f (k + 1)) (K := pwb J c) G ht (fun i hi l hl => ?_) hB (by omega) hcc0 (by omega) rfl (fun hp => ?_) fun hp => ?_))
  · have h1 : l / c < c := Nat.div_lt_of_lt_mul hl
    have h2 : l % c < c := Nat.mod_lt _ hc0
    exact (pwBd hc hf i _ h1 _ h2).mono (pwb_mono (by omega))
  · refine ⟨rfl, NoAl.none, ?_⟩
    refine Exs_cons (Ex_if (Ts_cmp ?_ (by kernel_rfl)))
    refine Ev_name (by kernel_rfl) rfl (Ev_none (op_isNot_none (.inl ⟨rfl, rfl⟩) ⟨_, rfl, fun q => (nomatch q), fun _ => ?_⟩))
    refine Exs_nil (Exs_cons (Ex_assign (x := "power") (by kernel_rfl) ?_ (by kernel_rfl)))
    refine Ev_def G (ok_mat_mul P) (by kernel_rfl) ?_ (by kernel_rfl) (by kernel_rfl) (by kernel_rfl)
    refine Evs_cons (Ev_name (by kernel_rfl) hpw ?_) (by kernel_rfl)
    refine Evs_cons (Ev_name (by kernel_rfl) ha ?_) (by kernel_rfl)
    have hk' : k < c := by
      rcases Nat.lt_or_ge k c with h' | h'
      · exact h'
      · obtain ⟨j, hj, hj'⟩ := hN
        rcases Nat.lt_or_ge j k with h2 | h2
        · exact absurd (hall j h2) hj'
        · have : j = k := by omega
          subst this
          exact absurd hp hj'
    have hb1 : pwb J (k + 1) ≤ pwb J c := pwb_mono (by omega)
    have hb2 : pwb J (k + 1) = 1 + 3 * (pwb J k + J + 1) := rfl
    have hb3 : ∀ m, pwb J c ≤ ebd (pwb J c) m := fun m => ebd_mono (a := 0) (b := m) (by omega)
    have hb4 := hb3 (c + 1)
    have hcm : c * (pwb J k + J + 1) ≤ 3 * (pwb J k + J + 1) := Nat.mul_le_mul_right _ hc
    refine Evs_nil (Fn.up (fn_mul (n := n) G ht (pwBd hc hf k) hf (by omega) hc0 (by omega) hc0 (by omega) (by omega) ?_) (by omega))
    refine Exs_nil ⟨c - (k + 1), by omega, k + 1, rfl, hk', fun j hj => ?_, rfl, hrw, rfl, ha⟩
    rcases Nat.lt_or_ge j k with h' | h'
    · exact hall j h'
    · have : j = k := by omega
      subst this; exact hp
  · refine ⟨rfl, NoAl.row (by omega) (by omega), ?_⟩
    refine Exs_cons (Ex_if (Ts_cmp ?_ (by kernel_rfl)))
    refine Ev_name (by kernel_rfl) rfl (Ev_none (op_isNot_none (.inr ⟨⟨_, rfl⟩, rfl⟩) ⟨_, rfl, fun _ => ?_, fun q => (nomatch q)⟩))
    exact Exs_cons (Ex_ret (Ev_name (by kernel_rfl) rfl ⟨ra, _, emp, rfl, rfl, rfl, h k hk hall hp⟩))
end

end Mine
end

section
open PySem PySem.Calls PyProof.Rows PySem.W
set_option maxRecDepth 100000
namespace Mine

section
variable {prog : Program} {w : World} {A : Around} {E : Value → Shared → Prop} {h : Heap} {g : Array GenState} {d : Drawn} {t : Nat} {os : OsState}
variable {nm q : Str} {C N : Addr} {bs bm : List Value} {hdct : Bool} {sn : List Str} {sub : List Value} {ab : Bool} {col : Option Bool} {dd : Option Addr} {k0 k1 k2 k3 k5 : Option Value} {B newId initId : String}

theorem exc_init_call (F : ExcBaseFacts B newId initId bm) {e t0 : Addr} {msg : Value} {Q : Value → Shared → Prop}
    (hC : h.get? C = some (excClassObj nm q C N bs bm hdct sn sub ab col dd k0 k1 k2 k3 k5 newId)) (he : h.get? e = some { cls := .ref C, data := .fields #[.ref t0, .none, .none, .none, .bool false, .none] })
    (hq : ∀ h' tk, (∀ b o, b ≠ e → h.get? b = some o → h'.get? b = some o) → (∃ t1, h'.get? e = some { cls := .ref C, data := .fields #[.ref t1, .none, .none, .none, .bool false, .none] }) → Q .none ⟨h', g, d, tk, os⟩) :
    wpAny (model prog w) A (call (.builtin initId) [.ref e, msg]) Q E ⟨h, g, d, t, os⟩ := by
  refine wpAny_call (codeAny_call_builtin F.init.plain F.initEntry (wpAny_check_init_sub F hC he rfl ?_))
  unfold Builtin.«BaseException.__init__»
  wp_walk
  refine hq _ _ (fun b o hb e' => ?_) ⟨h.objs.size, ?_⟩
  · rw [Heap.get?_update_other _ _ (Ne.symm hb)]
    exact Heap.get?_push_of_some _ e'
  · rw [Heap.get?_update_self _ (Heap.get?_push_of_some _ he) rfl]
    rfl

theorem canon_tga' : (Manifest.canonical "type.__getattribute__" != "object.__getattribute__") = true := by decide +kernel
theorem find_exc_init : findCls [] (.type "Exception") (.type "type") (PySem.Str.ofString "__init__") = some (.val (.builtin "Exception.__init__")) := by first | rfl | kernel_rfl | decide +kernel
theorem getm_exc_init {s : Shared} {pl : Sem Bool} {Q : Value × List Value → Shared → Prop} (h : Q (.builtin "Exception.__init__", []) { s with toks := s.toks + 1 }) :
    wpAny (model prog w) A (getMethod (.type "Exception") (PySem.Str.ofString "__init__") pl) Q E s := by
  have X : Frag.In [] s.heap := fun _ _ e => nomatch e
  have hstub : opaqueClassAbove (.type "Exception") = pure none := by unfold opaqueClassAbove; dsimp only; rw [show Manifest.isStub "Exception" = false by decide +kernel]; rfl
  have ht : typeOf (.type "Exception") = pure (.type "type") := by first | rfl | kernel_rfl
  have L0 : Looks (model prog w) s.heap (typeOf (.type "Exception")) (.type "type") := Looks.of_pure ht
  have hg : findIn [] (.type "type") "__getattribute__" = some (some (.builtin "type.__getattribute__")) := type_tga
  unfold getMethod specialOf
  refine wpAny_bind (wpAny_bind (L0.here ((looks_findIn X hg).here ?_)))
  dsimp only
  rw [if_pos canon_tga']
  refine wpAny_bind (wpAny_mono (Q := fun v => Q (v, [])) (E := E) ?_ (fun _ _ z => wpAny_pure z) fun _ _ z => z)
  have LO : Looks (model prog w) s.heap (opaqueClassAbove (.type "Exception")) none := Looks.of_pure hstub
  refine cls_open X LO L0 hg (looks_hook X (r := none) (by rfl)) (by show subIn [] _ _ = _; rfl) find_exc_init ?_
  refine wpAny_pure ?_
  show wpAny _ _ (handedOut _) _ _ _
  rw [handedOut_of (by decide +kernel)]
  exact wpAny_pure h
end
end Mine
end

section
open PySem PySem.Calls PyProof.Rows PySem.W
set_option maxRecDepth 100000
namespace Mine

section
variable {mg mb : Str → Option Value} {h₀ : Heap} {prog : Program} {w : World} {n : Nat} {μ : Mu} {P : Params} {env : Env} {ρ : Str → Option V} {A : Around} {s : Shared}

/-- a def's call, its body left open -/
theorem Call_raw {K : Frag} (G : Gd mg mb K h₀) {f : Addr} {o : Obj} {fd : FuncData} {body : List Stmt} {ps : List Str} {xs : List V} {as : List Value} {E : Value → Shared → Prop} {Q : Value → Shared → Prop}
    (ho : K.lookup f = some o) (hd : o.data = .func fd) (hb : fd.body = .stmts body) (hcl : fd.closure = []) (hcd : codeIn K fd.code fd.qualname = true)
    (hbind : ∀ vals : List Value, vals.length = ps.length → bindArgs fd ⟨vals, []⟩ = pure (ps.zip vals)) (hlen : xs.length = ps.length)
    (hkind : (ps.all fun y => fd.scope.names.lookup y == some .local || fd.scope.names.lookup y == some .cell) = true)
    (hgl : fd.globals = mainGlobals) (hbl : fd.builtins = builtinsNs)
    (hco : fd.scope.isCoroutine = false) (hgen : fd.scope.isGenerator = false) (hk : fd.scope.kind = .function)
    (rm : Room (n + 1) A) (ex : Ext h₀ s.heap) (M : MuOk h₀ μ s.heap) (q : Reps (dom μ) s.heap xs as)
    (h : ∀ s₁, FS AllB h₀ s μ (callEnvC fd s.heap.objs.size f) (bindV (ps.zip xs) fun _ => none) μ s₁ → Ext s.heap s₁.heap → Room n (A.deeper (callEnvC fd s.heap.objs.size f)) →
      wpAny (model prog w) (A.deeper (callEnvC fd s.heap.objs.size f)) (execs body (callEnvC fd s.heap.objs.size f)) (fun fw s' => Q (match fw with | .ret v => v | _ => .none) s')
        (fun e s' => wpAny (model prog w) (A.deeper (callEnvC fd s.heap.objs.size f)) (leaving (callEnvC fd s.heap.objs.size f) e) (fun _ s'' => E e s'') (fun e' s'' => E e' s'') s') s₁) :
    wpAny (model prog w) A (call (.ref f) as) Q E s := by
  have hlen' : as.length = ps.length := q.length.trans hlen
  have hkinds : ∀ x ∈ ps.zip as, fd.scope.names.lookup x.1 = some .local ∨ (fd.scope.names.lookup x.1 = some .cell ∧ ((cellsFrom (s.heap.objs.size + 1) fd.scope.names []).lookup x.1).isSome = true) := fun x hx => by
    have := List.all_eq_true.mp hkind x.1 (List.of_mem_zip hx).1
    simp only [Bool.or_eq_true, beq_iff_eq] at this
    exact this.imp id fun e => ⟨e, cellsFrom_some _ _ _ (.inl e)⟩
  refine wpAny_call (codeAny_call_cells (by have := rm.depth; omega) (ex _ _ (G.X _ _ ho)) hd (G.nolimit.keeps ex) (codeRec_of (G.X.keeps ex) hcd) hb (hbind as hlen') hcl hkinds ?_ hco hgen hk)
  intro s₁ I
  have hpl : PlainEnv (callEnvC fd s.heap.objs.size f) := ⟨hgen, hco, hbl, hgl⟩
  obtain ⟨h1, tk1, es1⟩ := I.toInCall.same
  have kp : Ext s.heap s₁.heap := I.toInCall.keep
  have q₁ : Reps (dom μ) s₁.heap xs as := Reps.mono (.of_ext kp) _ _ q
  have rel := bindV_rel (X := dom μ) (h := s₁.heap) (callEnvC fd s.heap.objs.size f).kindOf ps xs as (fun _ => none) (fun _ => none) (fun _ => none) q₁ (fun _ _ _ e => nomatch e) fun _ _ _ e => nomatch e
  have own : ∀ x, (callEnvC fd s.heap.objs.size f).kindOf x = some .cell → ∃ c, (callEnvC fd s.heap.objs.size f).cells.lookup x = some c := fun x kx =>
    Option.isSome_iff_exists.mp (cellsFrom_some (x := x) fd.scope.names (s.heap.objs.size + 1) [] (.inl kx))
  have fresh : ∀ c, s.heap.objs.size ≤ c → s.heap.get? c = none := fun c hc => by
    cases e : s.heap.get? c with
    | none => rfl
    | some o => exact absurd (Heap.lt_size e) (Nat.not_lt.mpr hc)
  have F₁ : FS AllB h₀ s μ (callEnvC fd s.heap.objs.size f) (bindV (ps.zip xs) fun _ => none) μ s₁ := by
    refine ⟨⟨hk, hgl, hbl, ⟨_, I.toInCall.ns, rel.1⟩, fun x v kx e => ?_, fun x kx => ?_, fun x y c ex ey => ?_⟩, ⟨⟨h1, tk1, es1⟩, fun b o _ e => kp b o e, M.ext kp, fun _ d => d, fun _ d nd => absurd d nd⟩, ex, M.new, fresh _ I.toInCall.fresh, fun x c _ _ hc => fresh c ?_⟩
    · have hp : x ∈ ps := by
        by_cases hx : x ∈ (ps.zip xs).map (·.1)
        · rw [List.map_fst_zip (by omega)] at hx; exact hx
        · rw [bindV_none _ _ _ hx] at e; cases e
      have hkx := List.all_eq_true.mp hkind x hp
      simp only [Bool.or_eq_true, beq_iff_eq] at hkx
      have hcx : (callEnvC fd s.heap.objs.size f).kindOf x = some .cell := by
        rcases kx with kx | kx
        · exact kx
        · have kx' : fd.scope.names.lookup x = some .free := kx
          rw [kx'] at hkx; rcases hkx with e | e <;> cases e
      obtain ⟨c, hc⟩ := own x hcx
      obtain ⟨r, er, qr⟩ := rel.2 x v (by rw [hcx]; decide) e
      exact ⟨c, r, hc, er ▸ I.cell x c hc, qr⟩
    · obtain ⟨c, hc⟩ := own x kx
      exact ⟨c, _, hc, I.cell x c hc⟩
    · exact name_of_addr I.apart (mem_of_lookup ex) (mem_of_lookup ey)
    · have h1 := I.above x c (mem_of_lookup hc)
      have h2 := I.toInCall.fresh
      exact Nat.le_of_lt (Nat.lt_of_le_of_lt h2 h1)
  exact h s₁ F₁ kp (rm.deeper hpl)

theorem op_addS {a b : Str} (hl : a.length + b.length ≤ 2 ^ 24) {Φ : V → Mu → Prop} (h : Φ (.str (a ++ b)) μ) : Op2 h₀ prog w n μ (binaryOp .Add) (.str a) (.str b) Φ := by
  rintro A s E Q rm ex M _ _ ⟨t, rfl⟩ ⟨u, rfl⟩ hQ
  exact PyProof.Rows.add_str (fun t' tk => hQ _ _ _ μ h (.of_ext (tk := tk) M (.refl _)) ⟨_, rfl⟩) (by rw [sizeLine_eq]; omega)

/-- a method's call by what is found under its name -/
theorem Call_methodG {o : Expr} {name : Str} {apos pos : Pos} {args : List Expr} {E : Value → Shared → Prop} {Q : Value → Shared → Prop}
    (hbase : attributeBase o name env (eval o env) = eval o env)
    (hfew : ((backTo pos (starEach args env)).all (fun x => !x.1) && (backToKw pos (keywordEach [] env)).all (fun x => x.1.isSome)
      && decide (args.length + ([] : List Keyword).length + (if ([] : List Keyword).isEmpty then 0 else 1) < 30)) = true)
    (hline : (apos.endLine == pos.line) = true)
    (h : wpAny (model prog w) A (eval o env) (fun ov s₁ => ∀ pl, wpAny (model prog w) A (getMethod ov name pl) (fun p s₂ => wpAny (model prog w) A (callWith pos p.1 p.2 (backTo pos (starEach args env)) []) Q E s₂) E s₁) E s) :
    wpAny (model prog w) A (eval (.Call (.Attribute o name apos) args [] pos) env) Q E s := by
  rw [arm_eval_Call, hbase]
  refine wpAny_bind (wpAny_mono h (fun ov s₁ h₁ => ?_) fun _ _ e => e)
  refine wpAny_bind (wpAny_standAt ?_)
  have hform : methodCallForm (args.length + ([] : List Keyword).length) (backTo pos (starEach args env)) (backToKw pos (keywordEach [] env)) = true := hfew
  have hpos : methodCallPos true o env apos pos = pure pos := by unfold methodCallPos; simp [hline]
  unfold methodCall
  rw [hform]
  refine wpAny_bind (wpAny_holding (wpAny_mono (h₁ _) (fun p s₂ h₂ => ?_) fun _ _ e => e))
  exact wpAny_bind (wpAny_of_eq hpos h₂)

theorem Frm.keepE {h h' : Heap} {X : Addr → Prop} {e : Addr} {oe : Obj} {vs : Array Value} (F : Frm env ρ X h) (he : h.get? e = some oe) (hd : oe.data = .fields vs) (k : ∀ b o, b ≠ e → h.get? b = some o → h'.get? b = some o) : Frm env ρ X h' := by
  have nf : ∀ b o, (∀ vs, o.data ≠ .fields vs) → h.get? b = some o → h'.get? b = some o := fun b o nf g => k b o (fun q => by subst q; rw [he] at g; cases g; exact nf _ hd) g
  refine F.trans (fun a o so nx g => ⟨nx, nf a o (fun vs q => by rcases so with ⟨_, _, e⟩ | ⟨_, e⟩ <;> (rw [q] at e; cases e)) g⟩) (fun m nn => ?_) fun x c o _ i => ?_
  · obtain ⟨o, es, ep, g, d, r⟩ := nn
    exact ⟨o, es, ep, nf _ _ (fun vs q => by rw [d] at q; cases q) g, d, r⟩
  · obtain ⟨o', g, d⟩ := i
    exact ⟨o', nf _ _ (fun vs q => by rw [d] at q; cases q) g, d⟩
end

end Mine
end

section
open PySem PySem.Calls PyProof.Rows PySem.W
open Sem (wp)
open Builtin Builtin.ObjectAttr
set_option maxRecDepth 100000
namespace Mine

section
variable {mg mb : Str → Option Value} {h₀ : Heap} {prog : Program} {w : World} {n : Nat} {μ : Mu} {P : Params} {env : Env} {ρ : Str → Option V} {A : Around} {s : Shared}

theorem nsIn_eq {K : Frag} {h : Heap} {a : Addr} {m : Str → Option Value} (X : K.In h) (N : h.Ns a m) {x : Str} {r : Option Value} (e : nsIn K a x = some r) : m x = r := by
  obtain ⟨o, es, ep, ho, hd, hk, hm⟩ := N
  unfold nsIn at e
  split at e
  · rename_i es' ep' _ hl
    have := X _ _ hl
    rw [ho] at this
    cases this
    cases hd
    rw [← hm x]
    unfold nsFind findBy
    rw [← Array.find?_toList]
    split at e
    · rename_i en hf; rw [hf]; cases e; rfl
    · rename_i hf; rw [hf]
      split at e <;> cases e
      rfl
  · cases e
def strKeysIn (K : Frag) (a : Addr) : Bool := match K.lookup a with
  | some ⟨_, _, .dict es _, _⟩ => es.toList.all fun e => match e.key with
    | .str _ _ => true
    | _ => false
  | _ => false
theorem ns_of {K : Frag} {h : Heap} {a : Addr} (X : K.In h) (e : strKeysIn K a = true) : ∃ m, h.Ns a m := by
  unfold strKeysIn at e
  split at e
  · rename_i es ep _ hl
    refine ⟨nsFind es, _, es, ep, X _ _ hl, rfl, fun en hen => ?_, fun _ => rfl⟩
    have := List.all_eq_true.mp e en (by simpa using hen)
    split at this
    · rename_i n t hk; exact ⟨n, t, hk⟩
    · cases this
  · cases e

abbrev casFail : Obj := excClassObj "CasFail" "CasFail" 31 30 [.type "Exception"] [.type "Exception", .type "BaseException", .type "object"] true [] [] false none none (some (.ref 15)) none (some (.str "CasFail" 189)) (some (.str "CasFail" 197)) (some (.bool true)) "Exception.__new__"
theorem cas_obj (P : Params) : (KK P).lookup 31 = some casFail := by kernel_rfl
theorem cas_keys (P : Params) : strKeysIn (KK P) 30 = true := by kernel_rfl
theorem cas_init (P : Params) : nsIn (KK P) 30 "__init__" = some (some (.ref 28)) := by kernel_rfl
theorem cas_setattr (P : Params) : nsIn (KK P) 30 "__setattr__" = some none := by kernel_rfl
theorem cas_getattribute (P : Params) : nsIn (KK P) 30 "__getattribute__" = some none := by kernel_rfl
theorem cas_getattr (P : Params) : nsIn (KK P) 30 "__getattr__" = some none := by kernel_rfl
theorem cas_kind (P : Params) : nsIn (KK P) 30 "kind" = some none := by kernel_rfl
theorem cas_text (P : Params) : nsIn (KK P) 30 "text" = some none := by kernel_rfl
end

section
variable {prog : Program} {w : World} {A : Around} {E : Value → Shared → Prop} {h : Heap} {g : Array GenState} {d : Drawn} {t : Nat} {os : OsState}
variable {nm q : Str} {C N x : Addr} {bs bm : List Value} {sn : List Str} {sub : List Value} {ab : Bool} {col : Option Bool} {dd : Option Addr} {k0 k1 k2 k3 k5 : Option Value} {B newId sa owner : String}
  {mN : Str → Option Value} {name : Str} {v : Value} {o : Obj}

/-- the first store of a field: the dict is new -/
theorem store_first {Q : Unit → Shared → Prop} (SF : StoreFacts B bm sa owner)
    (hC : h.get? C = some (excClassObj nm q C N bs bm true sn sub ab col dd k0 k1 k2 k3 k5 newId)) (hn : h.Ns N mN) (hns : mN "__setattr__" = none) (hna : mN name = none)
    (hB : typeLookup (.type B) name = pure none) (hx : h.get? x = some o) (hc : o.cls = .ref C) (hnc : ∀ c, o.data ≠ .cls c) (hdn : o.dict = none)
    (hq : ∀ h' tk', h'.get? x = some { cls := o.cls, dict := some h.objs.size, data := o.data, slots := o.slots } → h'.Ns1 h.objs.size (fun y => if y = name then some v else none) →
      (∀ b o, b ≠ x → h.get? b = some o → h'.get? b = some o) → Q () ⟨h', g, d, tk', os⟩) :
    wpAny (model prog w) A (setAttr (.ref x) name v) Q E ⟨h, g, d, t, os⟩ := by
  have f3 := SF.slot.bind (.ref x)
  have hpass := SF.passes (.ref x)
  unfold setAttr callSpecial? specialOf
  repeat (any_goals (first | assumption | (with_reducible refine wpAny_loadPart_at hx ?_; rw [hc]) | (with_reducible refine wpAny_typeLookup_exc hC hn SF.mro SF.slot.lookup ?_; rw [hns]) | wp_step))
  refine codeAny_call_builtin SF.slot.plain SF.entry (wpAny_check_sa SF hC hx hc ?_)
  unfold Builtin.«object.__setattr__»
  repeat (first | rw [refuse_eq] | (rw [refuseLoop_ref, hpass]) | (with_reducible refine wpAny_loadPart_at hx ?_; rw [hc]) | with_reducible refine wpAny_mroOf_exc hC ?_ | (with_reducible refine wpAny_typeLookup_exc hC hn SF.mro hB ?_; rw [hna]) | wp_step)
  rw [hdn, if_neg (by simp [typeHasDict])]
  split
  · rename_i hcd
    cases hcd
  split
  · rename_i c hcd
    exact absurd hcd (hnc c)
  · have hx₁ : (h.push { cls := .type "dict", data := .dict #[] }).get? x = some o := Heap.get?_push_of_some _ hx
    have hxs : x ≠ h.objs.size := Nat.ne_of_lt (Heap.lt_size hx)
    refine wpAny_bind (wpAny_alloc' ?_)
    refine wpAny_bind (wpAny_update' hx₁ ?_)
    refine wpAny_pure ?_
    have hgd : ((h.push { cls := .type "dict", data := .dict #[] }).update x fun o => { cls := o.cls, dict := some h.objs.size, data := o.data, slots := o.slots }).get? h.objs.size
        = some { cls := .type "dict", data := .dict #[] } :=
      (Heap.get?_update_ne _ _ _ _ hxs.symm).trans (Heap.get?_push_at rfl rfl)
    have hnd : ((h.push { cls := .type "dict", data := .dict #[] }).update x fun o => { cls := o.cls, dict := some h.objs.size, data := o.data, slots := o.slots }).Ns h.objs.size (fun _ => none) :=
      ⟨_, #[], _, hgd, rfl, fun e he => absurd he (by simp), fun _ => rfl⟩
    show wpAny _ _ (storeInDict h.objs.size (.str name _) name v) _ _ _
    unfold storeInDict newKeyGuard
    refine wpAny_bind (wpAny_pure (wpAny_bind (wpAny_nsSet1 (Heap.Ns1.of_empty hnd) fun h' hn' hs => ?_)))
    obtain ⟨oD, esD, epD, hoD, hdD, hcD⟩ := hn'.count (Within.cons name v Within.nil)
    refine wpAny_bind (wpAny_lookBehind hoD (by rw [hdD]; exact pastItsLine_dict (Nat.le_trans hcD (by rw [List.length_cons, List.length_nil, sizeLine_eq]; omega))) ?_)
    wp_walk
    refine hq h' _ ?_ hn' fun b ob hbx hb => ?_
    · refine (hs.2 x hxs).trans (Heap.get?_update_self _ hx₁ ?_)
      have hfr := (Heap.get?_some_iff.mp hx).2
      obtain ⟨oc, od, odt, osl⟩ := o
      cases odt <;> first | rfl | exact hfr
    · exact (hs.2 b (Nat.ne_of_lt (Heap.lt_size hb))).trans ((Heap.get?_update_ne _ _ _ _ hbx).trans (Heap.get?_push_of_some _ hb))

theorem lkE_ga : typeLookup (.type "Exception") "__getattribute__" = pure (some (.builtin "BaseException.__getattribute__")) := by rw [typeLookup_type, builtinLookup_eq_fast]; kernel_rfl
theorem mro_Exc : mroOf (.type "Exception") = pure [.type "Exception", .type "BaseException", .type "object"] := F.excBase_Exception.mroIs
theorem lkE_kind : typeLookup (.type "Exception") "kind" = pure none := by rw [typeLookup_type, builtinLookup_eq_fast]; kernel_rfl
theorem lkE_text : typeLookup (.type "Exception") "text" = pure none := by rw [typeLookup_type, builtinLookup_eq_fast]; kernel_rfl
end

end Mine
end

section
open PySem PySem.Calls PyProof.Rows PySem.W
open Sem (wp)
set_option maxRecDepth 100000
namespace Mine

section
variable {prog : Program} {w : World} {A : Around} {E : Value → Shared → Prop} {h : Heap} {g : Array GenState} {d : Drawn} {t : Nat} {os : OsState} {a : Addr} {o : Obj} {vs : Array Value} {t0 : Addr}
  {nm q : Str} {C N D : Addr} {bs bm bmB : List Value} {sn : List Str} {sub : List Value} {ab : Bool} {col : Option Bool} {dd : Option Addr} {k0 k1 k2 k3 k5 : Option Value} {B newId : String} {mN mA : Str → Option Value} {v : Value}

theorem check_ga_own {M : Model} {nameV : Value} {Q : Unit → Shared → Prop} (FB : ExcAttrBase B bm) (hC : h.get? C = some (excClassObj nm q C N bs bm true sn sub ab col dd k0 k1 k2 k3 k5 newId))
    (hx : h.get? a = some o) (hc : o.cls = .ref C) (hq : Q () ⟨h, g, d, t, os⟩) : wpAny M A (checkBuiltinCall "BaseException.__getattribute__" ⟨[.ref a, nameV], []⟩) Q E ⟨h, g, d, t, os⟩ := by
  have hk : builtinKind "BaseException.__getattribute__" = some .slot := by decide +kernel
  have hsplit : splitId "BaseException.__getattribute__" = some ("BaseException", "__getattribute__") := by decide +kernel
  have hcB : (Value.ref C :: bm).contains (.type "BaseException") = true := by rw [List.contains_cons, FB.hasBase, Bool.or_true]
  have ha := PySem.F.args_bexc_ga (.ref a) nameV
  simp only [checkBuiltinCall, hk, hsplit]
  refine wpAny_bind ?_
  · unfold isInstance
    repeat (first | (with_reducible refine wpAny_loadPart_at hx ?_; rw [hc]) | (with_reducible refine wpAny_isSubtype_exc hC ?_; rw [hcB]) | wp_step)
    exact hq

theorem inst_entry {tk : Tok} {name : Str} {Q : Fin → Shared → Prop} (FB : ExcAttrBase B bm) (hC : h.get? C = some (excClassObj nm q C N bs bm true sn sub ab col dd k0 k1 k2 k3 k5 newId)) (hN : h.Ns N mN)
    (hna : mN name = none) (hB : typeLookup (.type B) name = pure none) (hx : h.get? a = some o) (hc : o.cls = .ref C) (hnc : ∀ c, o.data ≠ .cls c) (hd : o.dict = some D) (hD : h.Ns D mA) (hv : mA name = some v) (hq : Q (.done (.ret v)) ⟨h, g, d, t, os⟩) :
    wpAny (model prog w) A (Builtin.«object.__getattribute__» ⟨[.ref a, .str name tk], []⟩) Q E ⟨h, g, d, t, os⟩ := by
  unfold Builtin.«object.__getattribute__»
  repeat (first | (with_reducible refine wpAny_loadPart_at hx ?_; rw [hc]) | (with_reducible refine wpAny_typeLookup_exc hC hN FB.mro hB ?_; rw [hna]) | wp_step)
  split
  · rename_i c hcd
    exact absurd hcd (hnc c)
  unfold instanceDict
  repeat (first | (with_reducible refine wpAny_loadPart_at hx ?_; rw [hc]) | with_reducible refine wpAny_loadPart_at hC ?_ | wp_step)
  rw [hd]
  repeat (first | (with_reducible refine wpAny_nsGet hD ?_; rw [hv]) | wp_step)
  exact hq

theorem inst_by {tk : Tok} {name : Str} {fill expr : Bool} {Q : Value → Shared → Prop} (FB : ExcAttrBase B bm) (hC : h.get? C = some (excClassObj nm q C N bs bm true sn sub ab col dd k0 k1 k2 k3 k5 newId)) (hN : h.Ns N mN)
    (hg1 : mN "__getattribute__" = none) (hg2 : mN "__getattr__" = none) (hna : mN name = none) (hB : typeLookup (.type B) name = pure none) (hx : h.get? a = some o) (hc : o.cls = .ref C) (hnc : ∀ c, o.data ≠ .cls c) (hd : o.dict = some D) (hD : h.Ns D mA) (hv : mA name = some v)
    (hh : handedOut v = pure v) (hq : Q v ⟨h, g, d, t, os⟩) :
    wpAny (model prog w) A (getAttrBy (.ref a) (.str name tk) fill expr) Q E ⟨h, g, d, t, os⟩ := by
  have f3 := FB.ga.bind (.ref a)
  have hx0 : (expr && onTheHeap (Value.builtin "BaseException.__getattribute__")) = false := by cases expr <;> rfl
  have hx2 : (Value.builtin "BaseException.__getattribute__" == Value.builtin "object.__getattribute__") = false := by decide +kernel
  have hx1 : (onTheHeap (Value.ref C) && Value.builtin "BaseException.__getattribute__" == Value.builtin "object.__getattribute__") = false := by rw [hx2]; rfl
  repeat (any_goals (first | assumption | (with_reducible refine wpAny_loadPart_at hx ?_; rw [hc]) | (with_reducible refine wpAny_typeLookup_exc hC hN FB.mro FB.ga.lookup ?_; rw [hg1]) | (with_reducible refine wpAny_typeLookup_exc hC hN FB.mro FB.noGetattr ?_; rw [hg2]) | wp_step))
  refine codeAny_call_builtin FB.ga.plain PySem.F.entry_bexc_ga (check_ga_own FB hC hx hc (inst_entry FB hC hN hna hB hx hc hnc hd hD hv ?_))
  repeat (any_goals (first | assumption | wp_step))

theorem inst_attr {name : Str} {expr : Bool} {Q : Value → Shared → Prop} (FB : ExcAttrBase B bm) (hC : h.get? C = some (excClassObj nm q C N bs bm true sn sub ab col dd k0 k1 k2 k3 k5 newId)) (hN : h.Ns N mN)
    (hg1 : mN "__getattribute__" = none) (hg2 : mN "__getattr__" = none) (hna : mN name = none) (hB : typeLookup (.type B) name = pure none) (hx : h.get? a = some o) (hc : o.cls = .ref C) (hnc : ∀ c, o.data ≠ .cls c) (hd : o.dict = some D) (hD : h.Ns D mA) (hv : mA name = some v)
    (hh : handedOut v = pure v) (hq : Q v ⟨h, g, d, t + 1, os⟩) :
    wpAny (model prog w) A (getAttr (.ref a) name expr) Q E ⟨h, g, d, t, os⟩ := by
  unfold getAttr
  repeat (any_goals (first | assumption | with_reducible refine inst_by FB hC hN hg1 hg2 hna hB hx hc hnc hd hD hv hh ?_ | wp_step))
end

end Mine
end

section
open PySem PySem.Calls PyProof.Rows PySem.W
open Sem (wp)
set_option maxRecDepth 100000
namespace Mine

abbrev excData (t : Addr) : Data := .fields #[.ref t, .none, .none, .none, .bool false, .none]

section
variable {mg mb : Str → Option Value} {h₀ : Heap} {prog : Program} {w : World} {n : Nat} {P : Params} {A : Around} {s : Shared}

theorem muOk_emp {h : Heap} : MuOk h₀ emp h := ⟨fun _ _ e => (nomatch e), fun _ d => absurd d not_emp⟩
theorem no_Exception (P : Params) : nsIn (KK P) mainGlobals "Exception" = some none := by kernel_rfl

theorem Wp_name {env : Env} {ρ : Str → Option V} {X : Addr → Prop} {x : Str} {pos : Pos} {v : V} {E : Value → Shared → Prop} {Q : Value → Shared → Prop} (F : Frm env ρ X s.heap) (hk : seenKind env x = true) (hv : ρ x = some v) (h : ∀ r, Rep X s.heap v r → Q r s)
    (hd : (x == ("__debug__" : Str)) = false := by decide) (hn : (x == ("__classdict__" : Str)) = false := by decide) : wpAny (model prog w) A (eval (.Name x pos) env) Q E s := by
  refine wpAny_Name ?_ hd
  unfold seenKind at hk
  simp only [Bool.or_eq_true, beq_iff_eq] at hk
  rcases hk with (hk | hk) | hk
  · obtain ⟨ml, nl, hl⟩ := F.ns
    obtain ⟨r, e, q⟩ := hl x v hk hv
    exact wpAny_loadName_local F.kind hk nl e (h r q)
  · obtain ⟨c, r, e, i, q⟩ := F.cell x v (.inl hk) hv
    exact wpAny_loadName_cell F.kind hk e i (h r q)
  · obtain ⟨c, r, e, i, q⟩ := F.cell x v (.inr hk) hv
    exact wpAny_loadName_free F.kind hk e i (h r q) hn

theorem init_call (G : Gd mg mb (KK P) h₀) (rm : Room (n + 1) A) (ex : Ext h₀ s.heap) {e t0 : Addr} {t1 t2 : Tok} {k x : Str} (hl : (k ++ Str.ofString ": ").length + x.length ≤ 2 ^ 24) (hl' : k.length + (Str.ofString ": ").length ≤ 2 ^ 24) {E : Value → Shared → Prop} {Q : Value → Shared → Prop}
    (he : s.heap.get? e = some { cls := .ref 31, data := excData t0 }) (hen : h₀.get? e = none)
    (hQ : ∀ h' tk D t3 t4 mA, (∀ b o, b ≠ e → s.heap.get? b = some o → h'.get? b = some o) → h'.get? e = some { cls := .ref 31, dict := some D, data := excData t3 } → h'.Ns D mA → mA "kind" = some (.str k t4) → s.heap.get? D = none → Q .none { s with heap := h', toks := tk }) :
    wpAny (model prog w) A (call (.ref 28) [.ref e, .str k t1, .str x t2]) Q E s := by
  refine Call_raw (xs := [.mt e, .str k, .str x]) (ps := ["self", "kind", "text"]) (o := { cls := .type "function", data := .func (fdAt (KK P) 28) }) (fd := fdAt (KK P) 28) (body := bodyOf (fdAt (KK P) 28)) (μ := emp) G (by kernel_rfl) rfl (by kernel_rfl) (by kernel_rfl) (by kernel_rfl) ?_ rfl (by kernel_rfl) (by kernel_rfl) (by kernel_rfl) (by kernel_rfl) (by kernel_rfl) (by kernel_rfl) rm ex muOk_emp ?_ ?_
  · intro vals hv
    match vals, hv with
    | [v0, v1, v2], _ => kernel_rfl
  · exact Reps.cons rfl (Reps.cons ⟨_, rfl⟩ (Reps.cons ⟨_, rfl⟩ Reps.nil))
  intro s₁ F kp rm'
  have hself : (bindV (List.zip ["self", "kind", "text"] [V.mt e, V.str k, V.str x]) fun _ => none) "self" = some (.mt e) := rfl
  have hkind : (bindV (List.zip ["self", "kind", "text"] [V.mt e, V.str k, V.str x]) fun _ => none) "kind" = some (.str k) := rfl
  have htext : (bindV (List.zip ["self", "kind", "text"] [V.mt e, V.str k, V.str x]) fun _ => none) "text" = some (.str x) := rfl
  generalize (bindV (List.zip ["self", "kind", "text"] [V.mt e, V.str k, V.str x]) fun _ => none) = ρ at F hself hkind htext
  have ks : (callEnvC (fdAt (KK P) 28) s.heap.objs.size 28).kindOf "self" = some .local := by kernel_rfl
  have hgE : (callEnvC (fdAt (KK P) 28) s.heap.objs.size 28).kindOf "Exception" = some .globalImplicit := by kernel_rfl
  -- the statements
  refine wpAny_execs_cons (wpAny_Expr (Call_methodG (by kernel_rfl) (by kernel_rfl) (by kernel_rfl) ?_) (by kernel_rfl) (by kernel_rfl))
  refine Name_function_global F.frm.kind hgE (loadGlobal_builtin (by rw [F.frm.gl]; exact G.g.keeps F.ext) (G.name (no_Exception P)) (by rw [F.frm.bl]; exact G.b.keeps F.ext) ((G.blt _ (by decide)).trans Boot.«Exception») ?_) (by decide)
  intro pl
  refine getm_exc_init ?_
  have F₂ : FS AllB h₀ s emp (callEnvC (fdAt (KK P) 28) s.heap.objs.size 28) ρ emp { s₁ with toks := s₁.toks + 1 } := F.ev (.of_ext (tk := s₁.toks + 1) muOk_emp (.refl _))
  refine PyProof.Rows.callWith_builtin1 (?_ : wpAny _ _ _ _ _ _) (by kernel_rfl) (by kernel_rfl)
  have hArgs : Evs h₀ prog w n (callEnvC (fdAt (KK P) 28) s.heap.objs.size 28) ρ emp { line := 5, col := 8, endLine := 5, endCol := 52 } [.Name "self" { line := 5, col := 27, endLine := 5, endCol := 31 }, .BinOp (.BinOp (.Name "kind" { line := 5, col := 33, endLine := 5, endCol := 37 }) .Add (.Constant (.str ": ") 0 { line := 5, col := 40, endLine := 5, endCol := 44 }) { line := 5, col := 33, endLine := 5, endCol := 44 }) .Add (.Name "text" { line := 5, col := 47, endLine := 5, endCol := 51 }) { line := 5, col := 33, endLine := 5, endCol := 51 }]
      fun vs μ' => μ' = emp ∧ vs = [.mt e, .str ((k ++ Str.ofString ": ") ++ x)] := by
    refine Evs_cons (Ev_name (by kernel_rfl) hself ?_) (by kernel_rfl)
    refine Evs_cons ?_ (by kernel_rfl)
    refine Ev_bin (Ev_bin (Ev_name (by kernel_rfl) hkind (Ev_str (op_addS hl' ?_))))
    refine Ev_name (by kernel_rfl) htext (op_addS hl ?_)
    exact Evs_nil ⟨rfl, rfl⟩
  refine hArgs _ _ _ _ rm' F₂.ext F₂.frm F₂.res.mu fun rs s₃ vs μ' p R q => ?_
  obtain ⟨rfl, rfl⟩ := p
  obtain ⟨r1, rs, rfl, q1, q⟩ := q
  obtain ⟨r2, rs, rfl, q2, q⟩ := q
  obtain rfl := q.nil_inv
  obtain rfl : r1 = .ref e := q1
  have F₃ := F₂.ev R
  have he₃ : s₃.heap.get? e = some { cls := .ref 31, data := excData t0 } := F₃.res.keep _ _ not_emp he
  have hC₃ : s₃.heap.get? 31 = some casFail := F₃.ext _ _ (G.X _ _ (cas_obj P))
  refine exc_init_call (h := s₃.heap) PySem.F.excBase_Exception hC₃ he₃ fun h₄ tk₄ k₄ ⟨t₄, he₄⟩ => ?_
  show wpAny _ _ _ _ _ _
  have fr₄ : Frm (callEnvC (fdAt (KK P) 28) s.heap.objs.size 28) ρ (dom emp) h₄ := F₃.frm.keepE he₃ rfl k₄
  have ex₄ : Ext h₀ h₄ := fun b o g => k₄ b o (fun q => by subst q; rw [hen] at g; cases g) (F₃.ext b o g)
  have hC₄ : h₄.get? 31 = some casFail := ex₄ _ _ (G.X _ _ (cas_obj P))
  obtain ⟨mN, hN⟩ := ns_of (G.X.keeps ex₄) (cas_keys P)
  have XK := G.X.keeps ex₄
  have n1 := nsIn_eq XK hN (cas_setattr P)
  have n2 := nsIn_eq XK hN (cas_kind P)
  have n3 := nsIn_eq XK hN (cas_text P)
  refine wpAny_execs_cons (plainObj_wpAny_Assign_Attribute ?_ (by kernel_rfl))
  refine Wp_name fr₄ (by kernel_rfl) hkind fun rk qk => ?_
  obtain ⟨tk5, rfl⟩ := qk
  refine Wp_name fr₄ (by kernel_rfl) hself fun rs qs => ?_
  obtain rfl : rs = .ref e := qs
  refine store_first PySem.F.store_Exception hC₄ hN n1 n2 lkE_kind he₄ rfl (fun c q => by cases q) rfl fun h₅ tk₅ he₅ hD₅ k₅ => ?_
  show wpAny _ _ _ _ _ _
  have fr₅ : Frm (callEnvC (fdAt (KK P) 28) s.heap.objs.size 28) ρ (dom emp) h₅ := fr₄.keepE he₄ rfl k₅
  have ex₅ : Ext h₀ h₅ := fun b o g => k₅ b o (fun q => by subst q; rw [hen] at g; cases g) (ex₄ b o g)
  have hC₅ : h₅.get? 31 = some casFail := ex₅ _ _ (G.X _ _ (cas_obj P))
  have hN₅ : h₅.Ns 30 mN := by
    obtain ⟨o, es, ep, g, dd, r⟩ := hN
    exact ⟨o, es, ep, k₅ _ _ (fun q => by rw [q, he₄] at g; cases g; cases dd) g, dd, r⟩
  refine wpAny_execs_cons (plainObj_wpAny_Assign_Attribute ?_ (by kernel_rfl))
  refine Wp_name fr₅ (by kernel_rfl) htext fun rt qt => ?_
  obtain ⟨tk6, rfl⟩ := qt
  refine Wp_name fr₅ (by kernel_rfl) hself fun rs qs => ?_
  obtain rfl : rs = .ref e := qs
  have hDe : h₄.objs.size ≠ e := Nat.ne_of_gt (Heap.lt_size he₄)
  have I₅ : h₅.Inst e 31 (fun y => if y = ("kind" : Str) then some (.str k tk5) else none) := ⟨_, he₅, rfl, (fun c q => by cases q), .inr ⟨_, rfl, hDe, hD₅⟩⟩
  refine store_attr (ns := ["kind"]) PySem.F.store_Exception hC₅ hN₅ n1 n3 lkE_text (fun q => by subst q; rw [hC₅] at he₅; cases he₅) I₅ (fun h₆ tk₆ I₆ k₆ same₆ => ?_) (Within.cons _ _ Within.nil) (by rw [sizeLine_eq]; decide)
  show wpAny _ _ _ _ _ _
  refine wpAny_execs_nil ?_
  obtain ⟨o₁, g₁, c₁, d₁, sl₁, dk₁⟩ := same₆ _ he₅
  have hdk := dk₁ _ rfl
  have ho₁ : h₆.get? e = some { cls := .ref 31, dict := some h₄.objs.size, data := excData t₄ } := by
    rw [g₁]; congr 1
    obtain ⟨oc, od, odt, osl⟩ := o₁
    simp only at c₁ d₁ sl₁ hdk
    subst c₁ d₁ sl₁ hdk
    rfl
  obtain ⟨o₂, g₂, _, _, hd₂⟩ := I₆
  rw [ho₁] at g₂; cases g₂
  rcases hd₂ with ⟨q, _⟩ | ⟨D, q, _, hD₆⟩
  · cases q
  cases q
  obtain ⟨hh, tk, es⟩ := F₃.res.same
  subst es
  exact hQ h₆ tk₆ h₄.objs.size _ tk5 _ (fun b o hb g => k₆ b o hb (fun o₀ dx e₀ ed => by
      rw [he₅] at e₀; cases e₀; cases ed
      exact Nat.ne_of_lt (Heap.lt_size (k₄ b o hb (F₃.res.keep b o not_emp g)))) (k₅ b o hb (k₄ b o hb (F₃.res.keep b o not_emp g)))) ho₁ hD₆.ns (by rw [if_neg (by decide), if_pos rfl]) (by
      cases g : s.heap.get? h₄.objs.size with
      | none => rfl
      | some o => exact absurd (Heap.lt_size (k₄ _ o hDe (F₃.res.keep _ o not_emp g))) (Nat.lt_irrefl _))
end

end Mine
end

section
open PySem PySem.Calls PyProof.Rows PySem.W
set_option maxRecDepth 100000
namespace Mine

/-- an own exception under way: its object, its dict; base is what stays -/
structure Fly (base h : Heap) (l : List Env) (e D t : Addr) : Prop where
  stays : base.StaysIn h
  new : base.get? e = none
  frames : h.FunFrames base l
  obj : ∃ tb, h.get? e = some { cls := .ref 31, dict := some D, data := .fields #[.ref t, tb, .none, .none, .bool false, .none] } ∧
    (tb = .none ∨ ∃ T oT ts, tb = .ref T ∧ base.get? T = none ∧ T ≠ e ∧ h.get? T = some oT ∧ oT.data = .fields ts ∧ ts[3]? = some .none)

abbrev flyObj (D t : Addr) (tb : Value) : Obj := { cls := .ref 31, dict := some D, data := .fields #[.ref t, tb, .none, .none, .bool false, .none] }

section
variable {M : Model} {A : Around} {E : Value → Shared → Prop} {s : Shared} {base : Heap} {env : Env} {outer : List Env} {L e D t : Addr}

theorem notIn_frames {h : Heap} {l : List Env} {vs : Array Value} {o : Obj} (F : h.FunFrames base l) (g : h.get? e = some o) (hd : o.data = .fields vs) : e ∉ l.filterMap (·.frame) := fun hm => by
  obtain ⟨_, o', ho, hnf⟩ := F.mem hm
  rw [g] at ho; cases ho; exact hnf vs hd

/-- one frame noted, the flight let go -/
theorem note_new {tb head : Value} {b : Bool} (hfr : A.frames = some (env :: outer)) (hf : env.frame = some L) (hst : base.StaysIn s.heap) (hen : base.get? e = none) (hF : s.heap.FunFrames base (env :: outer))
    (he : s.heap.get? e = some (flyObj D t tb)) {Q : Unit → Shared → Prop} (hQ : ∀ h', Fly base h' (env :: outer) e D t → s.heap.UpToSlots h' → Q () { s with heap := h' }) :
    wpAny M A (do let a ← frameOf env; let pl ← entryPlaceOf L b; let x ← EntryCells.newEntry head a .none (rawInt L) .none pl; setField (.ref e) 1 x) (fun _ s' => wpAny M A (setFlight (.ref e) none) Q E s') E s := by
  refine wpAny_bind (wpAny_frameOf_fun hfr hF hf fun h₁ hs => ?_)
  refine wpAny_bind (wpAny_entryPlaceOf fun pl hpl => ?_)
  unfold EntryCells.newEntry newFields
  refine wpAny_bind (wpAny_newObj_type ?_ (hpl.sizeOk5 _ _ _ _ _))
  have keep₁ : ∀ c o, c ∉ (env :: outer).filterMap (·.frame) → s.heap.get? c = some o → h₁.get? c = some o := fun c o hc g => (hs.2.1 c hc).trans g
  have he₁ := keep₁ e _ (notIn_frames hF he rfl) he
  have hst₁ : base.StaysIn h₁ := fun c o g => keep₁ c o (fun hm => by rw [(hF.mem hm).1] at g; cases g) (hst c o g)
  have up₁ : s.heap.UpToSlots h₁ := fun c o g _ => hs.2.2 c o g
  generalize hT : ({ cls := .type "traceback", dict := none, data := .fields ([head, .ref L, .none, rawInt L, .none] ++ (if pl.isEmpty then List.replicate 6 Value.none else pl)).toArray } : Obj) = oT
  have hoT : oT.data = .fields ([head, .ref L, .none, rawInt L, .none] ++ (if pl.isEmpty then List.replicate 6 Value.none else pl)).toArray := by rw [← hT]
  have hts : 3 < ([head, .ref L, .none, rawInt L, .none] ++ (if pl.isEmpty then List.replicate 6 Value.none else pl)).toArray.size := by
    simp only [List.size_toArray, List.length_append, List.length_cons, List.length_nil]; omega
  generalize ([head, .ref L, .none, rawInt L, .none] ++ (if pl.isEmpty then List.replicate 6 Value.none else pl)).toArray = ts at hoT hts
  have he₂ := Heap.get?_push_of_some (h := h₁) oT he₁
  refine wpAny_setField he₂ rfl (by simp) ?_
  have he₃ : ((h₁.push oT).update e (Obj.mapFields (·.setIfInBounds 1 (.ref h₁.objs.size)))).get? e = some (flyObj D t (.ref h₁.objs.size)) := Heap.get?_update_self _ he₂ rfl
  have hTe : h₁.objs.size ≠ e := Nat.ne_of_gt (Heap.lt_size he₁)
  have hT₃ : ((h₁.push oT).update e (Obj.mapFields (·.setIfInBounds 1 (.ref h₁.objs.size)))).get? h₁.objs.size = some oT := (Heap.get?_update_other _ _ (Ne.symm hTe)).trans (Heap.get?_push_size h₁ (Obj.isFreed_of_fields hoT))
  unfold setFlight
  refine wpAny_bind (wpAny_field he₃ rfl (x := .ref h₁.objs.size) rfl ?_)
  rw [if_pos (show (Value.ref h₁.objs.size != Value.none) = true from by simp)]
  refine wpAny_setField hT₃ hoT hts ?_
  have keep₄ : ∀ c o, c ≠ e → h₁.get? c = some o → (((h₁.push oT).update e (Obj.mapFields (·.setIfInBounds 1 (.ref h₁.objs.size)))).update h₁.objs.size (Obj.mapFields (·.setIfInBounds 3 ((none : Option Addr).elim Value.none fun f => rawInt f)))).get? c = some o := fun c o hc g => by
    rw [Heap.get?_update_other _ _ (Nat.ne_of_gt (Heap.lt_size g)), Heap.get?_update_other _ _ (Ne.symm hc)]
    exact Heap.get?_push_of_some _ g
  have ne_e : ∀ c o, s.heap.get? c = some o → (∀ vs, o.data ≠ .fields vs) → c ≠ e := fun c o g hnf q => by
    rw [q, he] at g; cases g; exact hnf _ rfl
  have up₄ : s.heap.UpToSlots (((h₁.push oT).update e (Obj.mapFields (·.setIfInBounds 1 (.ref h₁.objs.size)))).update h₁.objs.size (Obj.mapFields (·.setIfInBounds 3 ((none : Option Addr).elim Value.none fun f => rawInt f)))) := fun c o g hnf => by
    obtain ⟨sl, g₁⟩ := hs.2.2 c o g
    exact ⟨sl, keep₄ c _ (ne_e c o g hnf) g₁⟩
  refine hQ _ ⟨fun c o g => keep₄ c o (fun q => by rw [q, hen] at g; cases g) (hst₁ c o g), hen, hF.of_keeps fun c o g hnf => ?_, .ref h₁.objs.size, ?_, .inr ⟨h₁.objs.size, _, _, rfl, hst₁.fresh, hTe, Heap.get?_update_self _ hT₃ (Obj.isFreed_of_fields (Obj.data_mapFields hoT _)), Obj.data_mapFields hoT _, by simp [hts]⟩⟩ up₄
  · obtain ⟨sl, g'⟩ := up₄ c o g hnf
    exact ⟨_, g', rfl⟩
  · rw [Heap.get?_update_other _ _ hTe]; exact he₃

theorem note_ (hfr : A.frames = some (env :: outer)) (hf : env.frame = some L) (F : Fly base s.heap (env :: outer) e D t) {Q : Unit → Shared → Prop}
    (hQ : ∀ h', Fly base h' (env :: outer) e D t → s.heap.UpToSlots h' → Q () { s with heap := h' }) :
    wpAny M A (noteFrame (.ref e) env) (fun _ s' => wpAny M A (setFlight (.ref e) none) Q E s') E s := by
  obtain ⟨tb, he, htb⟩ := F.obj
  unfold noteFrame
  simp only [hf]
  refine wpAny_bind (wpAny_field he rfl (x := tb) rfl ?_)
  rcases htb with rfl | ⟨T, oT, ts, rfl, hbT, hTe, hT, hdT, h3⟩
  · rw [if_neg (by decide)]
    exact note_new hfr hf F.stays F.new F.frames he hQ
  · rw [if_pos (show (Value.ref T != Value.none) = true from by simp)]
    refine wpAny_bind (wpAny_field hT hdT h3 ?_)
    rw [if_neg (show ¬ ((Value.none == rawInt L) = true) from by simp [rawInt])]
    refine wpAny_bind (wpAny_setField hT hdT (Array.getElem?_eq_some_iff.mp h3).1 ?_)
    have other : ∀ b, b ≠ T → (s.heap.update T (Obj.mapFields (·.setIfInBounds 3 Value.none))).get? b = s.heap.get? b := fun b hb => Heap.get?_update_other _ _ (Ne.symm hb)
    have ne_T : ∀ c o, s.heap.get? c = some o → (∀ vs, o.data ≠ .fields vs) → c ≠ T := fun c o g hnf q => by
      rw [q, hT] at g; cases g; exact hnf _ hdT
    have up : s.heap.UpToSlots (s.heap.update T (Obj.mapFields (·.setIfInBounds 3 Value.none))) := fun c o g hnf => ⟨o.slots, (other c (ne_T c o g hnf)).trans g⟩
    exact note_new (s := { s with heap := s.heap.update T (Obj.mapFields (·.setIfInBounds 3 Value.none)) }) hfr hf (fun c o g => (other c fun q => by rw [q, hbT] at g; cases g).trans (F.stays c o g)) F.new
      (F.frames.of_keeps fun c o g hnf => ⟨o, (other c (ne_T c o g hnf)).trans g, rfl⟩) ((other e (Ne.symm hTe)).trans he) fun h' F' u => hQ h' F' (up.trans u)

theorem Fly.out {h : Heap} (F : Fly base h (env :: outer) e D t) : Fly base h outer e D t := ⟨F.stays, F.new, F.frames.2.2, F.obj⟩

/-- an exception leaves a frame -/
theorem leave_ (hfr : A.frames = some (env :: outer)) (hf : env.frame = some L) (F : Fly base s.heap (env :: outer) e D t) {Q : Unit → Shared → Prop}
    (hQ : ∀ h', Fly base h' outer e D t → s.heap.UpToSlots h' → Q () { s with heap := h' }) : wpAny M A (leaving env (.ref e)) Q E s := by
  unfold leaving
  exact wpAny_bind (note_ hfr hf F fun h' F' u => hQ h' F'.out u)
end

end Mine
end

section
open PySem PySem.Calls PyProof.Rows PySem.W
set_option maxRecDepth 100000
namespace Mine

section
variable {M : Model} {A : Around} {E : Value → Shared → Prop} {env : Env}
theorem hcas1 : (Value.ref 31 :: [.type "Exception", .type "BaseException", .type "object"]).contains (.type "BaseException") = true := by decide +kernel
theorem raise_made {s : Shared} {x : Sem Value} {Q : Flow → Shared → Prop} (hh : A.handled = none)
    (h : wpAny M A x (fun v s₁ => ∃ e D t, v = .ref e ∧ s₁.heap.get? 31 = some casFail ∧ s₁.heap.get? e = some (flyObj D t .none) ∧ E (.ref e) s₁) E s) :
    wpAny M A (raiseStmt env (some x) none) Q E s := by
  have hcB := hcas1
  unfold raiseStmt
  refine wpAny_bind (wpAny_mono h (fun v s₁ h₁ => ?_) fun _ _ x => x)
  obtain ⟨e, D, t, rfl, hC, he, hE⟩ := h₁
  obtain ⟨hp, g, d, tk, os⟩ := s₁
  repeat (first | with_reducible refine wpAny_loadPart_at he ?_ | with_reducible refine wpAny_loadPart_at hC ?_ | (with_reducible refine wpAny_isSubtype_exc hC ?_; rw [hcB]) | wp_step)
  exact wpAny_raiseNew_none hh hE
end

section
variable {mg mb : Str → Option Value} {h₀ : Heap} {prog : Program} {w : World} {n : Nat} {P : Params} {A : Around} {s : Shared}

/-- a call that raises an own exception of the kind shape -/
def FnX (h₀ : Heap) (prog : Program) (w : World) (n : Nat) (f : Value) (xs : List V) : Prop :=
  ∀ (A : Around) (s : Shared) (E : Value → Shared → Prop) (Q : Value → Shared → Prop) (base : Heap) (outer : List Env), Room n A → A.frames = some outer → Ext h₀ s.heap → base.StaysIn s.heap → s.heap.FunFrames base outer → ∀ as, Reps (dom emp) s.heap xs as →
    (∀ e D t h' tk, Fly base h' outer e D t → s.heap.UpToSlots h' → s.heap.get? D = none → (∃ mA t4, h'.Ns D mA ∧ mA "kind" = some (.str "shape" t4)) → E (.ref e) { s with heap := h', toks := tk }) → wpAny (model prog w) A (call f as) Q E s

theorem FnX.up {f : Value} {xs : List V} {m : Nat} (h : FnX h₀ prog w n f xs) (k : n ≤ m) : FnX h₀ prog w m f xs := fun A s E Q base outer rm => h A s E Q base outer (rm.le k)

theorem name_cas (P : Params) : nsIn (KK P) mainGlobals "CasFail" = some (some (.ref 31)) := by kernel_rfl

theorem room_under (rm : Room (n + 1) A) {a b : Value} : Room n (A.under (.builtin "type.__call__" ⟨[.ref 31, a, b], []⟩)) := by
  obtain ⟨hh, hd, hu, hf⟩ := rm
  refine ⟨hh, ?_, ?_, ?_⟩
  · show A.depth + (Code.builtin "type.__call__" ⟨[.ref 31, a, b], []⟩).weight + n + 200 < _
    have : (Code.builtin "type.__call__" ⟨[.ref 31, a, b], []⟩).weight = 1 := by kernel_rfl
    omega
  · show A.units + (Code.builtin "type.__call__" ⟨[.ref 31, a, b], []⟩).cUnits + 10 * n + 200 < _
    have : (Code.builtin "type.__call__" ⟨[.ref 31, a, b], []⟩).cUnits = 1 := by kernel_rfl
    omega
  · exact hf

theorem none_back {h h' : Heap} {b : Addr} (k : ∀ b o, h.get? b = some o → h'.get? b = some o) (e : h'.get? b = none) : h.get? b = none := by
  cases g : h.get? b with
  | none => rfl
  | some o => rw [k b o g] at e; cases e

theorem callWith_cls {M : Model} {env : Env} {pos : Pos} {e : Expr} {rest : List Expr} {E : Value → Shared → Prop} {Q : Value → Shared → Prop}
    (h : wpAny M A (spliced (backTo pos (starEach (e :: rest) env))) (fun vs s₁ => s₁.heap.get? 31 = some casFail ∧ wpAny M A (call (.ref 31) vs) Q E s₁) E s)
    (he : starEach (e :: rest) env = (false, eval e env) :: starEach rest env) (hplain : (backTo pos (starEach rest env)).any (·.1) = false) :
    wpAny M A (callWith pos (.ref 31) [] (backTo pos (starEach (e :: rest) env)) []) Q E s := by
  have hp : (backTo pos (starEach (e :: rest) env)).any (·.1) = false := by rw [he]; show (false || (backTo pos (starEach rest env)).any (·.1)) = false; rw [hplain]; rfl
  unfold callWith
  refine wpAny_bind (wpAny_holding (wpAny_mono (?_ : wpAny M A _ (fun a s₁ => a.kw = [] ∧ s₁.heap.get? 31 = some casFail ∧ wpAny M A (call (.ref 31) a.pos) Q E s₁) E s) (fun a s₁ h₁ => wpAny_bind (wpAny_standAt ?_)) fun _ _ x => x))
  · rw [he] at h ⊢
    exact Calls.evalArgs_plain (wpAny_mono h (fun vs s₁ h₁ => ⟨rfl, h₁⟩) fun _ _ x => x)
  · obtain ⟨apos, akw⟩ := a
    obtain ⟨hkw, hC, h₂⟩ := h₁
    obtain rfl : akw = [] := hkw
    obtain ⟨hp', g, d, tk, os⟩ := s₁
    simp only [hp]
    refine wpAny_bind (wpAny_keeperOf_exc hC ?_)
    exact wpAny_bind (wpAny_mono h₂ (fun r s₂ hr => wpAny_bind (wpAny_holding (wpAny_point (wpAny_pure hr)))) fun _ _ x => x)

theorem Wp_Ts {env : Env} {ρ : Str → Option V} {μ μ₀ : Mu} {s₀ : Shared} {t : Expr} {Φ : Bool → Mu → Prop} {E : Value → Shared → Prop} {Q : Bool → Shared → Prop} (rm : Room n A) (F : FS AllB h₀ s₀ μ₀ env ρ μ s) (h : Ts h₀ prog w n env ρ μ t Φ)
    (k : ∀ b s' μ', Φ b μ' → FS AllB h₀ s₀ μ₀ env ρ μ' s' → Q b s') : wpAny (model prog w) A (PySem.isTrue t env (eval t env)) Q E s :=
  h A s E Q rm F.ext F.frm F.res.mu fun b s' μ' p R => k b s' μ' p (F.ev R)
theorem Wp_Ev {env : Env} {ρ : Str → Option V} {μ μ₀ : Mu} {s₀ : Shared} {e : Expr} {Φ : V → Mu → Prop} {E : Value → Shared → Prop} {Q : Value → Shared → Prop} (rm : Room n A) (F : FS AllB h₀ s₀ μ₀ env ρ μ s) (h : Ev h₀ prog w n env ρ μ e Φ)
    (k : ∀ r s' v μ', Φ v μ' → FS AllB h₀ s₀ μ₀ env ρ μ' s' → Res h₀ μ s μ' s' → Rep (dom μ') s'.heap v r → Q r s') : wpAny (model prog w) A (eval e env) Q E s :=
  h A s E Q rm F.ext F.frm F.res.mu fun r s' v μ' p R q => k r s' v μ' p (F.ev R) R q
theorem Wp_Evs {env : Env} {ρ : Str → Option V} {μ μ₀ : Mu} {s₀ : Shared} {pos : Pos} {es : List Expr} {Φ : List V → Mu → Prop} {E : Value → Shared → Prop} {Q : List Value → Shared → Prop} (rm : Room n A) (F : FS AllB h₀ s₀ μ₀ env ρ μ s) (h : Evs h₀ prog w n env ρ μ pos es Φ)
    (k : ∀ r s' v μ', Φ v μ' → FS AllB h₀ s₀ μ₀ env ρ μ' s' → Res h₀ μ s μ' s' → Reps (dom μ') s'.heap v r → Q r s') : wpAny (model prog w) A (spliced (backTo pos (starEach es env))) Q E s :=
  h A s E Q rm F.ext F.frm F.res.mu fun r s' v μ' p R q => k r s' v μ' p (F.ev R) R q

theorem fnx_need (G : Gd mg mb (KK P) h₀) {x : Str} (hx : (Str.ofString "shape" ++ Str.ofString ": ").length + x.length ≤ 2 ^ 24) : FnX h₀ prog w (n + 4) (.ref 99) [.bool false, .str x] := by
  intro A s E Q base outer rm hfr ex hst hF as q hE
  have O := ok_need_shape P
  refine Call_raw (xs := [.bool false, .str x]) (ps := ["is_right", "text"]) (o := { cls := .type "function", data := .func (fdAt (KK P) 99) }) (fd := fdAt (KK P) 99) (body := bodyOf (fdAt (KK P) 99)) (μ := emp) G O.ho rfl O.hb O.hcl O.hcd O.hbind rfl O.hkind O.hgl O.hbl O.hco O.hgen O.hk rm ex muOk_emp q ?_
  intro s₁ F kp rm'
  have hr : (bindV (List.zip ["is_right", "text"] [V.bool false, V.str x]) fun _ => none) "is_right" = some (.bool false) := rfl
  have ht : (bindV (List.zip ["is_right", "text"] [V.bool false, V.str x]) fun _ => none) "text" = some (.str x) := rfl
  generalize (bindV (List.zip ["is_right", "text"] [V.bool false, V.str x]) fun _ => none) = ρ at F hr ht
  have hL : base.get? s.heap.objs.size = none := hst.fresh
  refine wpAny_execs_cons (wpAny_If ?_)
  refine Wp_Ts (Φ := fun c μ' => c = true ∧ μ' = emp) rm' F (Ts_not (Ts_val (Ev_name (by kernel_rfl) hr ⟨false, rfl, rfl, rfl⟩) (by kernel_rfl))) fun c s₂ μ' p F₂ => ?_
  obtain ⟨rfl, rfl⟩ := p
  rw [if_pos rfl]
  refine wpAny_execs_cons ?_
  rw [arm_exec_Raise]
  refine wpAny_bind (wpAny_standAt (raise_made rm'.handled ?_))
  refine wpAny_bind (wpAny_mono (wpAny_Call_ofName ?_) (fun v s₃ h₃ => wpAny_bind (wpAny_standAt (wpAny_pure h₃))) fun _ _ x => x)
  refine Name_function_global F₂.frm.kind (by kernel_rfl) (loadGlobal_global (by rw [F₂.frm.gl]; exact G.g.keeps F₂.ext) (G.name (name_cas P)) ?_) (by decide)
  refine callWith_cls ?_ (by kernel_rfl) (by kernel_rfl)
  refine Wp_Evs (Φ := fun vs μ' => vs = [.str (Str.ofString "shape"), .str x] ∧ μ' = emp) rm' F₂ (Evs_cons (Ev_str (Evs_cons (Ev_name (by kernel_rfl) ht (Evs_nil ⟨rfl, rfl⟩)) (by kernel_rfl))) (by kernel_rfl)) fun rs s₃ vs μ' p F₃ _ q₃ => ?_
  obtain ⟨rfl, rfl⟩ := p
  obtain ⟨r1, rs, rfl, ⟨k1, rfl⟩, q₃⟩ := q₃
  obtain ⟨r2, rs, rfl, ⟨k2, rfl⟩, q₃⟩ := q₃
  obtain rfl := q₃.nil_inv
  have hC₃ : s₃.heap.get? 31 = some casFail := F₃.ext _ _ (G.X _ _ (cas_obj P))
  refine ⟨hC₃, ?_⟩
  have XK := G.X.keeps F₃.ext
  obtain ⟨mN, hN⟩ := ns_of XK (cas_keys P)
  have hi28 : (KK P).lookup 28 = some { cls := .type "function", data := .func (fdAt (KK P) 28) } := by kernel_rfl
  refine wpAny_call_exc_init (h := s₃.heap) (g := s₃.gens) (d := s₃.drawn) (t := s₃.toks) (os := s₃.os) PySem.F.excBase_Exception hC₃ hN (nsIn_eq XK hN (cas_init P)) (XK _ _ hi28) rfl (fun h₄ e hm => ?_) (by rw [sizeLine_eq]; simp)
  obtain ⟨t, he₄, _, _⟩ := hm.there
  have kall : ∀ b o, s.heap.get? b = some o → s₃.heap.get? b = some o := fun b o g => F₃.res.keep b o not_emp g
  have hen : ∀ h' : Heap, (∀ b o, h'.get? b = some o → s₃.heap.get? b = some o) → h'.get? e = none := fun h' k => by
    cases g : h'.get? e with
    | none => rfl
    | some o => have := k e o g; rw [hm.new] at this; cases this
  refine init_call (s := { s₃ with heap := h₄ }) G (room_under rm') (fun b o g => hm.keeps b o (F₃.ext b o g)) hx (by decide) he₄ (hen h₀ F₃.ext) fun h₅ tk D t3 t4 mA k₅ he₅ hD hkd hDn => ⟨rfl, e, D, t3, rfl, ?_, he₅, ?_⟩
  · exact k₅ 31 _ (fun q => by rw [← q] at he₄; rw [hm.keeps _ _ hC₃] at he₄; cases he₄) (hm.keeps _ _ hC₃)
  have k35 : ∀ b o, s₃.heap.get? b = some o → h₅.get? b = some o := fun b o g => k₅ b o (fun q => by rw [q, hm.new] at g; cases g) (hm.keeps b o g)
  have kS : ∀ b o, s.heap.get? b = some o → h₅.get? b = some o := fun b o g => k35 b o (kall b o g)
  obtain ⟨ml, nl, _⟩ := F₃.frm.ns
  have nl₅ : h₅.Ns (callEnvC (fdAt (KK P) 99) s.heap.objs.size 99).locals ml := by
    obtain ⟨o, es, ep, g, r⟩ := nl
    exact ⟨o, es, ep, k35 _ _ g, r⟩
  have fly : Fly base h₅ (callEnvC (fdAt (KK P) 99) s.heap.objs.size 99 :: outer) e D t3 :=
    ⟨fun b o g => kS b o (hst b o g), hen base (fun b o g => kall b o (hst b o g)), .cons (by rw [F₃.frm.kind]; decide) rfl nl₅ hL (hF.of_keeps fun b o g _ => ⟨o, kS b o g, rfl⟩), .none, he₅, .inl rfl⟩
  refine leave_ (by rw [Around.frames_deeper hfr]) rfl fly fun h₆ fly₆ up₆ => ?_
  obtain ⟨hh, tk', es⟩ := F₃.res.same
  subst es
  exact hE e D t3 h₆ tk fly₆ ((Heap.UpToSlots.of_keeps kS).trans up₆) (none_back (fun b o g => hm.keeps b o (kall b o g)) hDn) ⟨mA, t4, up₆.ns hD, hkd⟩
end

end Mine
end

section
open PySem PySem.Calls PyProof.Rows PySem.W
set_option maxRecDepth 100000
namespace Mine

section
variable {mg mb : Str → Option Value} {h₀ : Heap} {prog : Program} {w : World} {n : Nat} {P : Params} {A : Around} {s : Shared} {env : Env} {ρ : Str → Option V}

def KindShape (h : Heap) (D : Addr) : Prop := ∃ mA t4, h.Ns D mA ∧ mA "kind" = some (.str "shape" t4)
theorem KindShape.up {h h' : Heap} {D : Addr} (k : KindShape h D) (u : h.UpToSlots h') : KindShape h' D := let ⟨mA, t4, n, e⟩ := k; ⟨mA, t4, u.ns n, e⟩

/-- statements of a frame that end in the raise -/
def ExsX (h₀ : Heap) (prog : Program) (w : World) (n : Nat) (env : Env) (ρ : Str → Option V) (sts : List Stmt) : Prop :=
  ∀ (A : Around) (s₀ s : Shared) (E : Value → Shared → Prop) (Q : Flow → Shared → Prop) (base : Heap) (outer : List Env), Room n A → A.frames = some (env :: outer) → FS AllB h₀ s₀ emp env ρ emp s → base.StaysIn s₀.heap → s₀.heap.FunFrames base outer →
    (∃ L, env.frame = some L ∧ env.locals = L ∧ base.get? L = none) →
    (∀ e D t h' tk, Fly base h' (env :: outer) e D t → s₀.heap.UpToSlots h' → s₀.heap.get? D = none → KindShape h' D → E (.ref e) { s₀ with heap := h', toks := tk }) → wpAny (model prog w) A (execs sts env) Q E s

theorem FnX_of (G : Gd mg mb (KK P) h₀) {x : Str} {f : Addr} {ps : List Str} (O : FnOk P x f ps) {xs : List V} (hlen : xs.length = ps.length)
    (h : ∀ L, ExsX h₀ prog w n (callEnvC (fdAt (KK P) f) L f) (bindV (ps.zip xs) fun _ => none) (bodyOf (fdAt (KK P) f))) : FnX h₀ prog w (n + 1) (.ref f) xs := by
  intro A s E Q base outer rm hfr ex hst hF as q hE
  refine Call_raw (xs := xs) (ps := ps) (o := { cls := .type "function", data := .func (fdAt (KK P) f) }) (fd := fdAt (KK P) f) (body := bodyOf (fdAt (KK P) f)) (μ := emp) G O.ho rfl O.hb O.hcl O.hcd O.hbind hlen O.hkind O.hgl O.hbl O.hco O.hgen O.hk rm ex muOk_emp q ?_
  intro s₁ F kp rm'
  refine h _ _ s s₁ _ _ base outer rm' (by rw [Around.frames_deeper hfr]) F hst hF ⟨_, rfl, rfl, hst.fresh⟩ fun e D t h' tk fly up hDn ks => ?_
  refine leave_ (by rw [Around.frames_deeper hfr]) rfl fly fun h₆ fly₆ up₆ => ?_
  obtain ⟨mA, t4, nD, hk⟩ := ks.up up₆
  exact hE e D t h₆ tk fly₆ (up.trans up₆) hDn ⟨mA, t4, nD, hk⟩

theorem ExsX_cons {st : Stmt} {sts : List Stmt} (h : Ex h₀ prog w n env ρ emp st fun fl ρ' μ' => fl = .next ∧ μ' = emp ∧ ExsX h₀ prog w n env ρ' sts) : ExsX h₀ prog w n env ρ (st :: sts) := by
  intro A s₀ s E Q base outer rm hfr F hst hF hL hE
  refine wpAny_execs_cons (h A s₀ emp s _ _ rm F fun fl f s' ρ' μ' p F' m q => ?_)
  obtain ⟨rfl, rfl, p⟩ := p
  obtain rfl : f = .next := q
  exact p A s₀ s' E Q base outer rm hfr F' hst hF hL hE

theorem ExsX_call (G : Gd mg mb (KK P) h₀) {x : Str} {f : Addr} {ps : List Str} (O : FnOk P x f ps) {p : Pos} {e : Expr} {es : List Expr} {pos pos' : Pos} {sts : List Stmt} {xs : List V}
    (hk : env.kindOf x = some .globalImplicit) (hx : FnX h₀ prog w n (.ref f) xs) (h : Evs h₀ prog w n env ρ emp pos (e :: es) fun vs μ' => vs = xs ∧ μ' = emp)
    (hi : interactive env = false) (hs : swapsWith (.Call (.Name x p) (e :: es) [] pos) none pos'.line env = pure false)
    (he : eval (.Call (.Name x p) (e :: es) [] pos) env = (do callWith pos (← eval (.Name x p) env) [] (backTo pos (starEach (e :: es) env)) (backToKw pos (keywordEach [] env))))
    (he' : starEach (e :: es) env = (false, eval e env) :: starEach es env) (hdb : (x == ("__debug__" : Str)) = false) :
    ExsX h₀ prog w n env ρ (.Expr (.Call (.Name x p) (e :: es) [] pos) pos' :: sts) := by
  intro A s₀ s E Q base outer rm hfr F hst hF hL hE
  refine wpAny_execs_cons (wpAny_Expr ?_ hi hs)
  refine Call_ ?_ he
  refine Name_function_global F.frm.kind hk (loadGlobal_global (by rw [F.frm.gl]; exact G.g.keeps F.ext) (G.name O.hx) ?_) hdb
  refine callWith_def rfl (Wp_Evs rm F h fun rs s₁ vs μ' p F₁ R q => ⟨F₁.ext _ _ (G.X _ _ O.ho), ?_⟩) he'
  obtain ⟨rfl, rfl⟩ := p
  have k : ∀ b o, s₀.heap.get? b = some o → s₁.heap.get? b = some o := fun b o g => F₁.res.keep b o not_emp g
  obtain ⟨ml, nl, _⟩ := F₁.frm.ns
  obtain ⟨L, hf, hl, hn⟩ := hL
  refine hx A s₁ _ _ base (env :: outer) rm hfr F₁.ext (fun b o g => k b o (hst b o g)) (.cons (by rw [F₁.frm.kind]; decide) hf (hl ▸ nl) hn (hF.of_keeps fun b o g _ => ⟨o, k b o g, rfl⟩)) rs q fun e D t h' tk fly up hDn ks => ?_
  obtain ⟨hh, tk', es⟩ := F₁.res.same
  subst es
  exact hE e D t h' tk fly ((Heap.UpToSlots.of_keeps k).trans up) (none_back k hDn) ks

theorem fnx_minpoly (G : Gd mg mb (KK P) h₀) {r c : Nat} {f : Nat → Nat → Rat} (hrc : r ≠ c) (hr0 : 0 < r) (hr : r ≤ 2 ^ 24) (hc : c ≤ 2 ^ 24) : FnX h₀ prog w (n + 5) (.ref 193) [matF r c f] := by
  refine FnX_of G (ok_minpoly P) rfl fun L => ?_
  refine ExsX_call G (ok_need_shape P) (by kernel_rfl) (fnx_need G (x := "a polynomial of no square") (by decide)) ?_ (by kernel_rfl) (by kernel_rfl) (by kernel_rfl) (by kernel_rfl) (by decide)
  refine Evs_cons (Ev_cmp ?_ (by kernel_rfl)) (by kernel_rfl)
  refine Ev_len G (by kernel_rfl) ?_ (by kernel_rfl) (by kernel_rfl)
  refine Ev_name (by kernel_rfl) rfl ⟨_, matF_seq, by simpa using hr, ?_⟩
  refine Ev_idx1 (Ev_def G (ok_shape P) (by kernel_rfl) ?_ (by kernel_rfl) (by kernel_rfl) (by kernel_rfl))
  refine Evs_cons (Ev_name (by kernel_rfl) rfl ?_) (by kernel_rfl)
  refine Evs_nil (fn_shapeF G hr0 hr hc ⟨_, _, rfl, rfl, op_eq ?_⟩)
  have e : ((((List.range r).map fun i => rowF c (f i)).length : Int) == (c : Int)) = false := by simp; omega
  rw [e]
  refine Evs_cons (Ev_str ?_) (by kernel_rfl)
  exact Evs_nil ⟨rfl, rfl⟩

theorem fnx_charpoly (G : Gd mg mb (KK P) h₀) {r c : Nat} {f : Nat → Nat → Rat} (hrc : r ≠ c) (hr0 : 0 < r) (hr : r ≤ 2 ^ 24) (hc : c ≤ 2 ^ 24) : FnX h₀ prog w (n + 5) (.ref 172) [matF r c f] := by
  refine FnX_of G (ok_charpoly P) rfl fun L => ?_
  have elen : (((List.range r).map fun i => rowF c (f i)).length : Int) = (r : Int) := by simp
  refine ExsX_cons (Ex_assign (x := "n") (by kernel_rfl) ?_ (by kernel_rfl))
  refine Ev_len G (by kernel_rfl) ?_ (by kernel_rfl) (by kernel_rfl)
  refine Ev_name (by kernel_rfl) rfl ⟨_, matF_seq, by simpa using hr, rfl, rfl, ?_⟩
  refine ExsX_call G (ok_need_shape P) (by kernel_rfl) (fnx_need G (x := "a polynomial of no square") (by decide)) ?_ (by kernel_rfl) (by kernel_rfl) (by kernel_rfl) (by kernel_rfl) (by decide)
  refine Evs_cons (Ev_cmp ?_ (by kernel_rfl)) (by kernel_rfl)
  refine Ev_name (by kernel_rfl) rfl ?_
  refine Ev_idx1 (Ev_def G (ok_shape P) (by kernel_rfl) ?_ (by kernel_rfl) (by kernel_rfl) (by kernel_rfl))
  refine Evs_cons (Ev_name (by kernel_rfl) rfl ?_) (by kernel_rfl)
  refine Evs_nil (fn_shapeF G hr0 hr hc ⟨_, _, rfl, rfl, op_eq ?_⟩)
  have e : ((((List.range r).map fun i => rowF c (f i)).length : Int) == (c : Int)) = false := by simp; omega
  rw [e]
  refine Evs_cons (Ev_str ?_) (by kernel_rfl)
  exact Evs_nil ⟨rfl, rfl⟩
end

end Mine
end

section
open PySem PySem.Calls PyProof.Rows PySem.W
set_option maxRecDepth 100000
namespace Mine

section
variable {mg mb : Str → Option Value} {h₀ : Heap} {prog : Program} {w : World} {n : Nat} {P : Params} {A : Around} {s : Shared} {ρ : Str → Option V}

def lamR (v : V) : Str → Option V := fun y => if y = "a" then some v else none

/-- the call of a lambda that sees one cell of the law's -/
theorem Lam_call {K : Frag} (G : Gd mg mb K h₀) {name qual : Str} {params : Arguments} {body : Expr} {scope : Scope} {c c' f : Addr} {pm ctv ra : Value} {va : V} {E : Value → Shared → Prop} {Q : Value → Shared → Prop} (rm : Room (n + 1) A) (ex : Ext h₀ s.heap)
    (ho : s.heap.get? f = some (kla_obj name qual params body scope [("a", c)] pm c' ctv)) (hcd : s.heap.CodeRec (.ref c') qual) (hbind : bindArgs (kla_fn name qual params body scope [("a", c)] pm (.ref c') ctv) ⟨[], []⟩ = pure [])
    (hc : s.heap.IsCell c (some ra)) (qa : Rep (dom emp) s.heap va ra) (hco : scope.isCoroutine = false) (hgen : scope.isGenerator = false) (hk : scope.kind = .function) (hcell : ∀ x ∈ scope.names, x.2 ≠ .cell) (hfa : scope.names.lookup (Str.ofString "a") = some .free)
    (h : ∀ s₁, FS AllB h₀ s emp (envX qual scope s.heap.objs.size f (.ref c') [("a", c)]) (lamR va) emp s₁ → Room n (A.deeper (envX qual scope s.heap.objs.size f (.ref c') [("a", c)])) →
      wpAny (model prog w) (A.deeper (envX qual scope s.heap.objs.size f (.ref c') [("a", c)])) (eval body (envX qual scope s.heap.objs.size f (.ref c') [("a", c)])) Q
        (fun e s' => wpAny (model prog w) (A.deeper (envX qual scope s.heap.objs.size f (.ref c') [("a", c)])) (leaving (envX qual scope s.heap.objs.size f (.ref c') [("a", c)]) e) (fun _ s'' => E e s'') (fun e' s'' => E e' s'') s') s₁) :
    wpAny (model prog w) A (call (.ref f) []) Q E s := by
  refine wpAny_call (kla_callFunE (by have := rm.depth; omega) ho rfl hco hgen rfl hcd ?_)
  rw [hbind]
  refine wpAny_pure (wpAny_newFunctionEnv hcell (by intro y hy; simp at hy) (fun h₁ hns hsb => ⟨(G.nolimit.keeps ex).fresh _ hsb, ?_⟩) hk)
  have k : Ext s.heap h₁ := fun b o e => hsb.extBut b o (Nat.ne_of_lt (Heap.lt_size e)) (Heap.get?_push_of_some _ e)
  refine kla_codeExpr ?_
  have fresh : s.heap.get? s.heap.objs.size = none := get?_size _
  have T : Trans (dom emp) s.heap (dom emp) h₁ := fun b o _ nx g => ⟨nx, k b o g⟩
  refine h _ ⟨⟨hk, rfl, rfl, ⟨_, hns, fun x v kx e => ?_⟩, fun x v kx e => ?_, fun x kx => ?_, fun x y a ex ey => ?_⟩, ⟨⟨_, _, rfl⟩, fun b o _ g => k b o g, muOk_emp, fun _ d => d, fun _ d nd => absurd d nd⟩, ex, fun a d => absurd d not_emp, fresh, fun x a _ kx _ => ?_⟩ (rm.deeper ⟨hgen, hco, rfl, rfl⟩)
  · unfold lamR at e
    split at e
    · subst ‹x = "a"›
      have kx' : scope.names.lookup (Str.ofString "a") = some .local := kx
      rw [hfa] at kx'; cases kx'
    · cases e
  · unfold lamR at e
    split at e
    · subst ‹x = "a"›
      cases e
      obtain ⟨o, g, d⟩ := hc
      exact ⟨c, ra, rfl, ⟨o, k _ _ g, d⟩, Rep.mono T _ _ qa⟩
    · cases e
  · exact absurd rfl (hcell _ (lookup_mem kx))
  · have h1 : (x, a) ∈ [(("a" : Str), c)] := lookup_mem ex
    have h2 : (y, a) ∈ [(("a" : Str), c)] := lookup_mem ey
    simp at h1 h2
    rw [h1.1, h2.1]
  · exact absurd rfl (hcell _ (lookup_mem kx))

abbrev lamScope (x : Str) : Scope := { kind := .function, names := [("a", .free), (x, .globalImplicit)], isGenerator := false, isCoroutine := false }
/-- what is known of a lambda of the law's -/
structure LamOk (h : Heap) (f : Addr) (x : Str) (p0 p1 p2 : Pos) (v : V) : Prop where
  obj : ∃ c c' pm ctv ra, h.get? f = some (kla_obj "<lambda>" "law.<locals>.<lambda>" ⟨[], [], none, [], [], none, []⟩ (.Call (.Name x p0) [.Name "a" p1] [] p2) (lamScope x) [("a", c)] pm c' ctv) ∧
    h.CodeRec (.ref c') "law.<locals>.<lambda>" ∧ h.IsCell c (some ra) ∧ Rep (dom emp) h v ra

theorem codeRec_ext {h h' : Heap} {c : Value} {q : Str} (k : Ext h h') (r : h.CodeRec c q) : h'.CodeRec c q := r.keeps k

theorem lam_min (G : Gd mg mb (KK P) h₀) {f : Addr} {p0 p1 p2 : Pos} {v : V} (O : LamOk h₀ f "minpoly" p0 p1 p2 v) {Φ : V → Mu → Prop} (h : Fn h₀ prog w n (.ref 193) emp [v] Φ) : Fn h₀ prog w (n + 1) (.ref f) emp [] Φ := by
  intro A s E Q rm ex M as q hQ
  obtain rfl := q.nil_inv
  obtain ⟨c, c', pm, ctv, ra, ho, hcd, hc, qa⟩ := O.obj
  refine Lam_call G rm ex (ex _ _ ho) (codeRec_ext ex hcd) (by kernel_rfl) (by obtain ⟨o, g, d⟩ := hc; exact ⟨o, ex _ _ g, d⟩) (Rep.mono (.of_ext ex) _ _ qa) rfl rfl rfl (by intro x hx; simp at hx; rcases hx with rfl | rfl <;> simp) rfl fun s₁ F rm' => ?_
  have hE : Ev h₀ prog w n (envX "law.<locals>.<lambda>" (lamScope "minpoly") s.heap.objs.size f (.ref c') [("a", c)]) (lamR v) emp (.Call (.Name "minpoly" p0) [.Name "a" p1] [] p2) Φ := by
    refine Ev_def G (ok_minpoly P) (by kernel_rfl) ?_ (by kernel_rfl) (by kernel_rfl) (by kernel_rfl)
    exact Evs_cons (Ev_name (by kernel_rfl) rfl (Evs_nil h)) (by kernel_rfl)
  refine Wp_Ev rm' F hE fun r s' v' μ' p F' R q => hQ r s' v' μ' p F'.res q

theorem lam_char (G : Gd mg mb (KK P) h₀) {f : Addr} {p0 p1 p2 : Pos} {v : V} (O : LamOk h₀ f "charpoly" p0 p1 p2 v) {Φ : V → Mu → Prop} (h : Fn h₀ prog w n (.ref 172) emp [v] Φ) : Fn h₀ prog w (n + 1) (.ref f) emp [] Φ := by
  intro A s E Q rm ex M as q hQ
  obtain rfl := q.nil_inv
  obtain ⟨c, c', pm, ctv, ra, ho, hcd, hc, qa⟩ := O.obj
  refine Lam_call G rm ex (ex _ _ ho) (codeRec_ext ex hcd) (by kernel_rfl) (by obtain ⟨o, g, d⟩ := hc; exact ⟨o, ex _ _ g, d⟩) (Rep.mono (.of_ext ex) _ _ qa) rfl rfl rfl (by intro x hx; simp at hx; rcases hx with rfl | rfl <;> simp) rfl fun s₁ F rm' => ?_
  have hE : Ev h₀ prog w n (envX "law.<locals>.<lambda>" (lamScope "charpoly") s.heap.objs.size f (.ref c') [("a", c)]) (lamR v) emp (.Call (.Name "charpoly" p0) [.Name "a" p1] [] p2) Φ := by
    refine Ev_def G (ok_charpoly P) (by kernel_rfl) ?_ (by kernel_rfl) (by kernel_rfl) (by kernel_rfl)
    exact Evs_cons (Ev_name (by kernel_rfl) rfl (Evs_nil h)) (by kernel_rfl)
  refine Wp_Ev rm' F hE fun r s' v' μ' p F' R q => hQ r s' v' μ' p F'.res q

theorem lamx_min (G : Gd mg mb (KK P) h₀) {f : Addr} {p0 p1 p2 : Pos} {v : V} (O : LamOk h₀ f "minpoly" p0 p1 p2 v) (hx : FnX h₀ prog w n (.ref 193) [v]) : FnX h₀ prog w (n + 1) (.ref f) [] := by
  intro A s E Q base outer rm hfr ex hst hF as q hE
  obtain rfl := q.nil_inv
  obtain ⟨c, c', pm, ctv, ra, ho, hcd, hc, qa⟩ := O.obj
  refine Lam_call G rm ex (ex _ _ ho) (codeRec_ext ex hcd) (by kernel_rfl) (by obtain ⟨o, g, d⟩ := hc; exact ⟨o, ex _ _ g, d⟩) (Rep.mono (.of_ext ex) _ _ qa) rfl rfl rfl (by intro x hx; simp at hx; rcases hx with rfl | rfl <;> simp) rfl fun s₁ F rm' => ?_
  refine Call_ ?_ (by kernel_rfl)
  refine Name_function_global F.frm.kind (by kernel_rfl) (loadGlobal_global (by rw [F.frm.gl]; exact G.g.keeps F.ext) (G.name (ok_minpoly P).hx) ?_) (by decide)
  refine callWith_def rfl (Wp_Evs (Φ := fun vs μ' => vs = [v] ∧ μ' = emp) rm' F (Evs_cons (Ev_name (by kernel_rfl) rfl (Evs_nil ⟨rfl, rfl⟩)) (by kernel_rfl)) fun rs s₂ vs μ' p F₂ R q => ⟨F₂.ext _ _ (G.X _ _ (ok_minpoly P).ho), ?_⟩) (by kernel_rfl)
  obtain ⟨rfl, rfl⟩ := p
  have k : ∀ b o, s.heap.get? b = some o → s₂.heap.get? b = some o := fun b o g => F₂.res.keep b o not_emp g
  obtain ⟨ml, nl, _⟩ := F₂.frm.ns
  refine hx _ s₂ _ _ base (envX "law.<locals>.<lambda>" (lamScope "minpoly") s.heap.objs.size f (.ref c') [("a", c)] :: outer) rm' (by rw [Around.frames_deeper hfr]) F₂.ext (fun b o g => k b o (hst b o g)) (.cons (by rw [F₂.frm.kind]; decide) rfl nl hst.fresh (hF.of_keeps fun b o g _ => ⟨o, k b o g, rfl⟩)) rs q fun e D t h' tk fly up hDn ks => ?_
  refine leave_ (by rw [Around.frames_deeper hfr]) rfl fly fun h₆ fly₆ up₆ => ?_
  obtain ⟨hh, tk', es⟩ := F₂.res.same
  subst es
  obtain ⟨mA, t4, nD, hk⟩ := KindShape.up ks up₆
  exact hE e D t h₆ tk fly₆ (((Heap.UpToSlots.of_keeps k).trans up).trans up₆) (none_back k hDn) ⟨mA, t4, nD, hk⟩

theorem lamx_char (G : Gd mg mb (KK P) h₀) {f : Addr} {p0 p1 p2 : Pos} {v : V} (O : LamOk h₀ f "charpoly" p0 p1 p2 v) (hx : FnX h₀ prog w n (.ref 172) [v]) : FnX h₀ prog w (n + 1) (.ref f) [] := by
  intro A s E Q base outer rm hfr ex hst hF as q hE
  obtain rfl := q.nil_inv
  obtain ⟨c, c', pm, ctv, ra, ho, hcd, hc, qa⟩ := O.obj
  refine Lam_call G rm ex (ex _ _ ho) (codeRec_ext ex hcd) (by kernel_rfl) (by obtain ⟨o, g, d⟩ := hc; exact ⟨o, ex _ _ g, d⟩) (Rep.mono (.of_ext ex) _ _ qa) rfl rfl rfl (by intro x hx; simp at hx; rcases hx with rfl | rfl <;> simp) rfl fun s₁ F rm' => ?_
  refine Call_ ?_ (by kernel_rfl)
  refine Name_function_global F.frm.kind (by kernel_rfl) (loadGlobal_global (by rw [F.frm.gl]; exact G.g.keeps F.ext) (G.name (ok_charpoly P).hx) ?_) (by decide)
  refine callWith_def rfl (Wp_Evs (Φ := fun vs μ' => vs = [v] ∧ μ' = emp) rm' F (Evs_cons (Ev_name (by kernel_rfl) rfl (Evs_nil ⟨rfl, rfl⟩)) (by kernel_rfl)) fun rs s₂ vs μ' p F₂ R q => ⟨F₂.ext _ _ (G.X _ _ (ok_charpoly P).ho), ?_⟩) (by kernel_rfl)
  obtain ⟨rfl, rfl⟩ := p
  have k : ∀ b o, s.heap.get? b = some o → s₂.heap.get? b = some o := fun b o g => F₂.res.keep b o not_emp g
  obtain ⟨ml, nl, _⟩ := F₂.frm.ns
  refine hx _ s₂ _ _ base (envX "law.<locals>.<lambda>" (lamScope "charpoly") s.heap.objs.size f (.ref c') [("a", c)] :: outer) rm' (by rw [Around.frames_deeper hfr]) F₂.ext (fun b o g => k b o (hst b o g)) (.cons (by rw [F₂.frm.kind]; decide) rfl nl hst.fresh (hF.of_keeps fun b o g _ => ⟨o, k b o g, rfl⟩)) rs q fun e D t h' tk fly up hDn ks => ?_
  refine leave_ (by rw [Around.frames_deeper hfr]) rfl fly fun h₆ fly₆ up₆ => ?_
  obtain ⟨hh, tk', es⟩ := F₂.res.same
  subst es
  obtain ⟨mA, t4, nD, hk⟩ := KindShape.up ks up₆
  exact hE e D t h₆ tk fly₆ (((Heap.UpToSlots.of_keeps k).trans up).trans up₆) (none_back k hDn) ⟨mA, t4, nD, hk⟩
end

end Mine
end

section
open PySem PySem.Calls PyProof.Rows PySem.W
set_option maxRecDepth 100000
namespace Mine

section
variable {mg mb : Str → Option Value} {h₀ : Heap} {prog : Program} {w : World} {n : Nat} {P : Params} {A : Around} {s : Shared} {ρ : Str → Option V} {env : Env} {μ : Mu}

theorem Ex_try {body : List Stmt} {hd : ExceptHandler} {hs : List ExceptHandler} {pos : Pos} {Φ : Fl → (Str → Option V) → Mu → Prop} (h : Exs h₀ prog w n env ρ μ body Φ) : Ex h₀ prog w n env ρ μ (.Try body (hd :: hs) [] [] pos) Φ := by
  intro A s₀ μ₀ s E Q rm F hQ
  refine wpAny_Try_except (h A s₀ μ₀ s _ _ rm F fun fl f s' ρ' μ' p F' m q => ?_)
  cases fl with
  | next => obtain rfl : f = .next := q; exact wpAny_execs_nil (hQ _ _ _ _ _ p F' m rfl)
  | brk => obtain rfl : f = .brk := q; exact hQ _ _ _ _ _ p F' m rfl
  | cont => obtain rfl : f = .cont := q; exact hQ _ _ _ _ _ p F' m rfl
  | ret v => obtain ⟨r, rfl, q⟩ := q; exact hQ (.ret v) _ _ _ _ p F' m ⟨r, rfl, q⟩

theorem callWith_lam {M : Model} {E : Value → Shared → Prop} {Q : Value → Shared → Prop} {f : Addr} {o : Obj} {fd : FuncData} {pos : Pos} (ho : s.heap.get? f = some o) (hd : o.data = .func fd) (h : wpAny M A (call (.ref f) []) Q E s) : wpAny M A (callWith pos (.ref f) [] [] []) Q E s :=
  callWith_function_kw (o := o) (fd := fd) (evalArgs_nil3 ⟨⟨ho, hd⟩, h⟩)

theorem Ev_call0 {x : Str} {p pos : Pos} {f : Addr} {Φ : V → Mu → Prop} (hk : seenKind env x = true) (hv : ρ x = some (.mt f)) (ho : ∃ o fd, h₀.get? f = some o ∧ o.data = .func fd) (h : Fn h₀ prog w n (.ref f) μ [] Φ)
    (he : eval (.Call (.Name x p) [] [] pos) env = (do callWith pos (← eval (.Name x p) env) [] (backTo pos (starEach [] env)) (backToKw pos (keywordEach [] env))))
    (hd : (x == ("__debug__" : Str)) = false := by decide) (hn : (x == ("__classdict__" : Str)) = false := by decide) : Ev h₀ prog w n env ρ μ (.Call (.Name x p) [] [] pos) Φ := by
  intro A s E Q rm ex F M hQ
  refine Call_ (Wp_name F hk hv (fun r q => ?_) hd hn) he
  obtain rfl : r = .ref f := q
  obtain ⟨o, fd, ho, hd'⟩ := ho
  exact callWith_lam (ex _ _ ho) hd' (h A s E Q rm ex M [] Reps.nil hQ)

theorem fn_told (G : Gd mg mb (KK P) h₀) {f : Addr} {Φ : V → Mu → Prop} (ho : ∃ o fd, h₀.get? f = some o ∧ o.data = .func fd) (h : Fn h₀ prog w n (.ref f) emp [] Φ) : Fn h₀ prog w (n + 1) (.ref 214) emp [.mt f] Φ := by
  refine Fn_K G (ok_law_told P) rfl fun L => ?_
  refine Exs_cons (Ex_try (Exs_cons (Ex_ret (Ev_call0 (by kernel_rfl) rfl ho (h.mono fun _ _ p => p) (by kernel_rfl)))))
end

end Mine
end

section
open PySem PySem.Calls PyProof.Rows PySem.W
set_option maxRecDepth 100000
namespace Mine

section
variable {M : Model} {A : Around} {E : Value → Shared → Prop} {s : Shared} {base : Heap} {env : Env} {l : List Env} {L e D t : Addr}
theorem flight_ (F : Fly base s.heap l e D t) {Q : Unit → Shared → Prop} (hQ : ∀ h', Fly base h' l e D t → s.heap.UpToSlots h' → Q () { s with heap := h' }) : wpAny M A (setFlight (.ref e) none) Q E s := by
  obtain ⟨tb, he, htb⟩ := F.obj
  unfold setFlight
  refine wpAny_bind (wpAny_field he rfl (x := tb) rfl ?_)
  rcases htb with rfl | ⟨T, oT, ts, rfl, hbT, hTe, hT, hdT, h3⟩
  · rw [if_neg (by decide)]
    exact wpAny_pure (hQ s.heap ⟨F.stays, F.new, F.frames, .none, he, .inl rfl⟩ (Heap.UpToSlots.refl _))
  · rw [if_pos (show (Value.ref T != Value.none) = true from by simp)]
    have hsz := (Array.getElem?_eq_some_iff.mp h3).1
    refine wpAny_setField hT hdT hsz ?_
    have other : ∀ b, b ≠ T → (s.heap.update T (Obj.mapFields (·.setIfInBounds 3 ((none : Option Addr).elim Value.none fun f => rawInt f)))).get? b = s.heap.get? b := fun b hb => Heap.get?_update_other _ _ (Ne.symm hb)
    have ne_T : ∀ c o, s.heap.get? c = some o → (∀ vs, o.data ≠ .fields vs) → c ≠ T := fun c o g hnf q => by
      rw [q, hT] at g; cases g; exact hnf _ hdT
    have up : s.heap.UpToSlots (s.heap.update T (Obj.mapFields (·.setIfInBounds 3 ((none : Option Addr).elim Value.none fun f => rawInt f)))) := fun c o g hnf => ⟨o.slots, (other c (ne_T c o g hnf)).trans g⟩
    exact hQ _ ⟨fun c o g => (other c fun q => by rw [q, hbT] at g; cases g).trans (F.stays c o g), F.new, F.frames.of_keeps fun c o g hnf => ⟨o, (other c (ne_T c o g hnf)).trans g, rfl⟩, .ref T, (other e (Ne.symm hTe)).trans he,
      .inr ⟨T, _, _, rfl, hbT, hTe, Heap.get?_update_self _ hT (Obj.isFreed_of_fields (Obj.data_mapFields hdT _)), Obj.data_mapFields hdT _, by simp [hsz]⟩⟩ up
end

section
variable {mg mb : Str → Option Value} {h₀ : Heap} {prog : Program} {w : World} {n : Nat} {P : Params} {A : Around} {s : Shared} {ρ : Str → Option V} {env : Env} {μ : Mu}

theorem handle_cas {E : Value → Shared → Prop} {e : Addr} {t : Expr} {n : Str} {b₀ : Stmt} {suite : List Stmt} {pos : Pos} {rest : List ExceptHandler} {Q : Flow → Shared → Prop}
    (h : wpAny (model prog w) (A.mark (some (.ref e))) (eval t env) (fun c s₁ => c = .ref 31 ∧ s₁.heap.get? 31 = some casFail ∧ (∃ oe, s₁.heap.get? e = some oe ∧ oe.cls = .ref 31) ∧
      wpAny (model prog w) (A.mark (some (.ref e))) (setFlight (.ref e) none) (fun _ s₂ =>
          wpAny (model prog w) (A.mark (some (.ref e))) (storeName env n (.ref e)) (fun _ s₃ =>
            wpAny (model prog w) (A.mark (some (.ref e))) (execs (b₀ :: suite) env)
              (fun f s₄ => wpAny (model prog w) A (do bindName env n .none; unbindBehindTheSuite env n pos) (fun _ s₅ => Q f s₅) E s₄)
              (AsSuiteRaised (model prog w) (A.mark (some (.ref e))) env n pos (notedBy (model prog w) (A.mark (some (.ref e))) env (cameBackBy (model prog w) A env E))) s₃) (notedBy (model prog w) (A.mark (some (.ref e))) env (cameBackBy (model prog w) A env E)) s₂) (notedBy (model prog w) (A.mark (some (.ref e))) env (cameBackBy (model prog w) A env E)) s₁) (notedBy (model prog w) (A.mark (some (.ref e))) env (cameBackBy (model prog w) A env E)) s) :
    wpAny (model prog w) A (handleBy (.ref e) env (.ExceptHandler (some t) (some n) (b₀ :: suite) pos :: rest)) Q E s := by
  refine wpAny_handleBy_cons (codeAny_handlers_test (wpAny_mono h (fun c s₁ h₁ => ?_) fun _ _ y => y)) (by intro q; cases q)
  obtain ⟨rfl, hC, ⟨oe, he, hcls⟩, hk⟩ := h₁
  obtain ⟨hh, g, d, tk, os⟩ := s₁
  exact wpAny_excMatches_sub_self hC he hcls (by decide +kernel) (codeAny_handlers_suite_as hk)

theorem Wp_attr {M : Model} {E : Value → Shared → Prop} {x : Str} {p pos : Pos} {attr : Str} {Q : Value → Shared → Prop} (hbase : attributeBase (.Name x p) attr env (eval (.Name x p) env) = eval (.Name x p) env) (hl : ∀ o r, letTemporaryGo (.Name x p) o r = pure ())
    (h : wpAny M A (eval (.Name x p) env) (fun o s₁ => wpAny M A (getAttr o attr true) Q E s₁) E s) : wpAny M A (eval (.Attribute (.Name x p) attr pos) env) Q E s := by
  rw [arm_eval_Attribute, hbase]
  refine wpAny_bind (wpAny_mono h (fun o s₁ h₁ => wpAny_bind (wpAny_standAt (wpAny_bind (wpAny_holding (wpAny_mono h₁ (fun r s₂ h₂ => ?_) fun _ _ e => e))))) fun _ _ e => e)
  rw [hl]
  exact wpAny_bind (wpAny_pure (wpAny_pure h₂))

theorem toldx (G : Gd mg mb (KK P) h₀) {f : Addr} (ho : ∃ o fd, h₀.get? f = some o ∧ o.data = .func fd) (hx : FnX h₀ prog w n (.ref f) []) {A : Around} {s : Shared} {E : Value → Shared → Prop} {Q : Value → Shared → Prop} {base : Heap} {outer : List Env}
    (rm : Room (n + 1) A) (hfr : A.frames = some outer) (hb : Ext h₀ base) (hst : base.StaysIn s.heap) (hF : s.heap.FunFrames base outer)
    (hQ : ∀ h' tk t4, base.StaysIn h' → s.heap.UpToSlots h' → Q (.str "shape" t4) { s with heap := h', toks := tk }) : wpAny (model prog w) A (call (.ref 214) [.ref f]) Q E s := by
  have O := ok_law_told P
  have ex : Ext h₀ s.heap := fun b o g => hst b o (hb b o g)
  refine Call_raw (xs := [.mt f]) (ps := ["work"]) (o := { cls := .type "function", data := .func (fdAt (KK P) 214) }) (fd := fdAt (KK P) 214) (body := bodyOf (fdAt (KK P) 214)) (μ := emp) G O.ho rfl O.hb O.hcl O.hcd O.hbind rfl O.hkind O.hgl O.hbl O.hco O.hgen O.hk rm ex muOk_emp (Reps.cons rfl Reps.nil) ?_
  intro s₁ F kp rm'
  have hw : (bindV (List.zip ["work"] [V.mt f]) fun _ => none) "work" = some (.mt f) := rfl
  generalize (bindV (List.zip ["work"] [V.mt f]) fun _ => none) = ρ at F hw
  have hL : base.get? s.heap.objs.size = none := hst.fresh
  have hLs : s.heap.get? s.heap.objs.size = none := get?_size _
  obtain ⟨ml, nl, _⟩ := F.frm.ns
  refine wpAny_execs_cons (wpAny_Try_except (wpAny_execs_cons (wpAny_Return_some (Call_ (Wp_name F.frm (by kernel_rfl) hw fun r q => ?_) (by kernel_rfl)))))
  obtain rfl : r = .ref f := q
  obtain ⟨o, fd, ho, hd'⟩ := ho
  refine callWith_lam (F.ext _ _ ho) hd' (hx _ s₁ _ _ base (callEnvC (fdAt (KK P) 214) s.heap.objs.size 214 :: outer) rm' (by rw [Around.frames_deeper hfr]) F.ext (fun b o g => kp b o (hst b o g)) (.cons (by rw [F.frm.kind]; decide) rfl nl hL (hF.of_keeps fun b o g _ => ⟨o, kp b o g, rfl⟩)) [] Reps.nil fun e D t h₁ tk₁ fly₁ up₁ hDn ks => ?_)
  refine note_ (s := { s₁ with heap := h₁, toks := tk₁ }) (by rw [Around.frames_deeper hfr]) rfl fly₁ fun h₂ fly₂ up₂ => ?_
  refine handle_cas ?_
  have ex₂ : Ext h₀ h₂ := fun b o g => fly₂.stays b o (hb b o g)
  refine Name_function_global F.frm.kind (by kernel_rfl) (loadGlobal_global (by rw [F.frm.gl]; exact G.g.keeps ex₂) (G.name (name_cas P)) ?_) (by decide)
  have hC₂ : h₂.get? 31 = some casFail := ex₂ _ _ (G.X _ _ (cas_obj P))
  obtain ⟨tb₂, he₂, _⟩ := fly₂.obj
  refine ⟨rfl, hC₂, ⟨_, he₂, rfl⟩, ?_⟩
  refine flight_ (s := { s₁ with heap := h₂, toks := tk₁ }) fly₂ fun h₃ fly₃ up₃ => ?_
  have nl₃ : h₃.Ns (callEnvC (fdAt (KK P) 214) s.heap.objs.size 214).locals ml := up₃.ns (up₂.ns (up₁.ns nl))
  refine wpAny_storeName_local (by kernel_rfl) nl₃ (fun h₄ nl₄ sb₄ => ?_) (by kernel_rfl)
  have keepL : ∀ {h h' : Heap} {b : Addr} {o : Obj}, Heap.SameBut (callEnvC (fdAt (KK P) 214) s.heap.objs.size 214).locals h h' → b ≠ s.heap.objs.size → h.get? b = some o → h'.get? b = some o := fun sb hb g => (sb.2 _ hb).trans g
  obtain ⟨tb₃, he₃, _⟩ := fly₃.obj
  have heL : e ≠ s.heap.objs.size := fun q => by
    obtain ⟨o', es, ep, g, d, _⟩ := nl₃
    rw [q] at he₃
    rw [show (callEnvC (fdAt (KK P) 214) s.heap.objs.size 214).locals = s.heap.objs.size from rfl, he₃] at g
    cases g; cases d
  have he₄ := keepL sb₄ heL he₃
  have st₄ : base.StaysIn h₄ := fun b o g => keepL sb₄ (fun q => by rw [q, hL] at g; cases g) (fly₃.stays b o g)
  have ex₄ : Ext h₀ h₄ := fun b o g => st₄ b o (hb b o g)
  have hC₄ : h₄.get? 31 = some casFail := ex₄ _ _ (G.X _ _ (cas_obj P))
  have XK := G.X.keeps ex₄
  obtain ⟨mN, hN⟩ := ns_of XK (cas_keys P)
  obtain ⟨mA, t4, nD, hkd⟩ := KindShape.up (KindShape.up ks up₂) up₃
  have hDL : D ≠ s.heap.objs.size := fun q => by
    obtain ⟨o', es, ep, g, d, _⟩ := nl
    rw [show (callEnvC (fdAt (KK P) 214) s.heap.objs.size 214).locals = s.heap.objs.size from rfl, ← q, hDn] at g
    cases g
  have nD₄ : h₄.Ns D mA := nD.sameBut sb₄ hDL
  refine wpAny_execs_cons (wpAny_Return_some (Wp_attr (by kernel_rfl) (by intro _ _; rfl) ?_))
  refine wpAny_Name (wpAny_loadName_local F.frm.kind (by kernel_rfl) nl₄ (v := .ref e) (by rw [if_pos rfl]) ?_) (by decide)
  refine inst_attr (h := h₄) PySem.F.attrBase_Exception hC₄ hN (nsIn_eq XK hN (cas_getattribute P)) (nsIn_eq XK hN (cas_getattr P)) (nsIn_eq XK hN (cas_kind P)) lkE_kind he₄ rfl (fun c q => by cases q) rfl nD₄ hkd (by rfl) ?_
  refine wpAny_bind (wpAny_bindName (wpAny_storeName_local (by kernel_rfl) nl₄ (fun h₅ nl₅ sb₅ => ?_) (by kernel_rfl)))
  unfold unbindBehindTheSuite
  refine wpAny_onRaise (wpAny_unbindName_local (by kernel_rfl) nl₅ (v := .none) (by rw [if_pos rfl]) (by kernel_rfl) fun h₆ u nl₆ sb₆ => ?_)
  obtain ⟨hh, tk', es⟩ := F.res.same
  subst es
  refine hQ h₆ _ t4 (fun b o g => ?_) (fun b o g hnf => ?_)
  · have hbL : b ≠ s.heap.objs.size := fun q => by rw [q, hL] at g; cases g
    exact keepL sb₆ hbL (keepL sb₅ hbL (st₄ b o g))
  · have hbL : b ≠ s.heap.objs.size := fun q => by rw [q, hLs] at g; cases g
    obtain ⟨sl, g₃⟩ := (((Heap.UpToSlots.of_keeps kp).trans up₁).trans (up₂.trans up₃)) b o g hnf
    exact ⟨sl, keepL sb₆ hbL (keepL sb₅ hbL (keepL sb₄ hbL g₃))⟩
end

end Mine
end

section
open PySem PySem.Calls PyProof.Rows PySem.W
namespace Mine

local macro_rules
  | `(tactic| k_units) => `(tactic| repeat (first
    | with_reducible refine Ev_bin ?_
    | with_reducible refine Evs_cons ?_ (by kernel_rfl)
    | with_reducible refine Evs_nil ?_
    | with_reducible refine Ev_idx0 ?_
    | with_reducible refine Ev_idx1 ?_
    | with_reducible refine ⟨_, _, rfl, rfl, ?_⟩
    | ((with_reducible refine' Ev_name ?hk ?hv ?_ (by kernel_rfl) (by kernel_rfl)); (case hk => kernel_rfl); (case hv => exact rfl))
    | with_reducible refine Ev_int ?_
    | with_reducible refine Ev_tuple ?_
    | with_reducible refine Exs_cons ?_
    | with_reducible refine Ex_ret ?_
    | with_reducible refine Ev_cmp ?_ (by kernel_rfl)
    | with_reducible refine Ts_cmp ?_ (by kernel_rfl)
    | with_reducible refine Ex_if ?_
    | with_reducible refine op_add ?_
    | with_reducible refine op_sub ?_))

def intsV (l : List Int) : List V := l.map .int
def boxV (sc : List Int) (i : Nat) : List V := [.lst (intsV sc), .int (i : Int)]

section
variable {mg mb : Str → Option Value} {h₀ : Heap} {prog : Program} {w : World} {n : Nat} {μ : Mu} {P : Params} {env : Env} {ρ : Str → Option V}

theorem fmod_nat {a : Int} {m : Nat} (hm : 0 < m) : ∃ r : Nat, r < m ∧ a.fmod (m : Int) = (r : Int) := by
  have h1 : 0 ≤ a.fmod (m : Int) := Int.fmod_nonneg_of_pos a (by omega)
  have h2 : a.fmod (m : Int) < (m : Int) := Int.fmod_lt_of_pos a (by omega)
  exact ⟨(a.fmod (m : Int)).toNat, by omega, by omega⟩

theorem fn_take_ (G : Gd mg mb (KK P) h₀) (ht : prog.given.tree = none) {b : Addr} {sc : List Int} {i many : Nat} (hm : 0 < many) (hb : μ b = some (boxV sc i)) (hsc : sc.length ≤ 2 ^ 20) (hi : i ≤ 2 ^ 20)
    {Φ : V → Mu → Prop} (h : ∀ r : Nat, r < many → Φ (.int (r : Int)) (muSet μ b (boxV sc (i + 1)))) : Fn h₀ prog w (n + 1) (.ref 207) μ [.mt b, .int (many : Int)] Φ := by
  refine Fn_K G (ok_law_take P) rfl fun L => ?_
  refine Exs_cons (Ex_setitem ?_ (by kernel_rfl))
  refine Ev_bin (Ev_idx1 (Ev_name (by kernel_rfl) rfl ⟨_, _, hb, rfl, Ev_int (op_add ?_)⟩))
  refine Ev_name (by kernel_rfl) rfl (Ev_int ⟨b, _, 1, rfl, rfl, hb, by simp [boxV], by decide, ?_⟩)
  have es : (boxV sc i).set 1 (.int ((i : Int) + 1)) = boxV sc (i + 1) := by simp [boxV]
  rw [es]
  refine Exs_cons (Ex_if (Ts_cmp ?_ (by kernel_rfl)))
  refine Ev_idx1 (Ev_name (by kernel_rfl) rfl ⟨_, _, muSet_self, rfl, ?_⟩)
  refine Ev_len G (by kernel_rfl) ?_ (by kernel_rfl) (by kernel_rfl)
  refine Ev_idx0 (Ev_name (by kernel_rfl) rfl ⟨_, .lst (intsV sc), muSet_self, rfl, intsV sc, rfl, by simp [intsV]; omega, ?_⟩)
  refine op_le ⟨_, rfl, fun e => ?_, fun e => ?_⟩
  · have hlt : i < sc.length := by simp [intsV] at e; omega
    refine Exs_cons (Ex_ret (Ev_bin ?_))
    refine Ev_callB G (by kernel_rfl) (G.name (no_abs P)) Boot.«abs» ?_ (by decide) (by kernel_rfl) (by kernel_rfl) (by kernel_rfl) (by kernel_rfl)
    refine Evs_cons ?_ (by kernel_rfl)
    refine Ev_item (Ev_idx0 (Ev_name (by kernel_rfl) rfl ⟨_, .lst (intsV sc), muSet_self, rfl, ?_⟩)) (by with_unfolding_all (intros; rfl))
    refine Ev_bin (Ev_idx1 (Ev_name (by kernel_rfl) rfl ⟨_, _, muSet_self, rfl, Ev_int (op_sub ?_)⟩))
    refine ⟨intsV sc, i, .int sc[i], by simp, rfl, by simp [intsV, hlt], by omega, ?_⟩
    refine Evs_nil (fn_abs ?_)
    refine Ev_name (by kernel_rfl) rfl (op_mod (by omega) ?_)
    obtain ⟨r, hr, er⟩ := fmod_nat (a := ((sc[i]).natAbs : Int)) hm
    rw [er]
    exact h r hr
  · refine Exs_nil (Exs_cons (Ex_ret (Ev_bin (Ev_bin (Ev_bin (Ev_int ?_))))))
    refine Ev_idx1 (Ev_name (by kernel_rfl) rfl ⟨_, _, muSet_self, rfl, op_mul (mulOk (j := 3) (k := 21) (by decide) (by simp; omega) (by decide)) ?_⟩)
    refine Ev_bin (Ev_idx1 (Ev_name (by kernel_rfl) rfl ⟨_, _, muSet_self, rfl, Ev_int (op_fdiv G ht (by decide) (op_add ?_))⟩))
    refine Ev_name (by kernel_rfl) rfl (op_mod (by omega) ?_)
    obtain ⟨r, hr, er⟩ := fmod_nat (a := 4 * ((i + 1 : Nat) : Int) + (((i + 1 : Nat) : Int)).fdiv 3) hm
    rw [er]
    exact h r hr
end

end Mine
end

section
open PySem PySem.Calls PyProof.Rows PySem.W
namespace Mine

local macro_rules
  | `(tactic| k_units) => `(tactic| repeat (first
    | with_reducible refine Ev_bin ?_
    | with_reducible refine Evs_cons ?_ (by kernel_rfl)
    | with_reducible refine Evs_nil ?_
    | with_reducible refine Ev_idx0 ?_
    | with_reducible refine Ev_idx1 ?_
    | with_reducible refine ⟨_, _, rfl, rfl, ?_⟩
    | ((with_reducible refine' Ev_name ?hk ?hv ?_ (by kernel_rfl) (by kernel_rfl)); (case hk => kernel_rfl); (case hv => exact rfl))
    | with_reducible refine Ev_int ?_
    | with_reducible refine Ev_tuple ?_
    | with_reducible refine Exs_cons ?_
    | with_reducible refine Ex_ret ?_
    | with_reducible refine Ev_cmp ?_ (by kernel_rfl)
    | with_reducible refine Ts_cmp ?_ (by kernel_rfl)
    | with_reducible refine Ex_if ?_
    | with_reducible refine op_add ?_
    | with_reducible refine op_sub ?_))

noncomputable abbrev lawEnv (P : Params) (L fa : Addr) (cd : Value) : Env := envX "law" (fdAt (KK P) 219).scope L fa cd (cellsFrom (L + 1) (fdAt (KK P) 219).scope.names [])
noncomputable abbrev lawBody (P : Params) : List Stmt := bodyOf (fdAt (KK P) 219)

section
variable {mg mb : Str → Option Value} {h₀ : Heap} {prog : Program} {w : World} {n : Nat} {μ : Mu} {P : Params} {env : Env} {ρ : Str → Option V} {L fa : Addr} {cd : Value}

theorem cells_shift {b D : Addr} {μ : Mu} {l res : List V} (h : b ≠ D) : muSet (muSet μ D res) b l = muSet (muSet μ b l) D res := by
  funext x; unfold muSet
  by_cases h1 : x = b
  · subst h1; simp [h]
  · simp [h1]

def rowV (c : Nat) (v : Nat → Int) : List V := (List.range c).map fun j => .int (v j)
theorem rowV_snoc {k : Nat} {v : Nat → Int} {x : Int} : rowV k v ++ [.int x] = rowV (k + 1) fun l => if l = k then x else v l := by
  unfold rowV
  rw [List.range_succ, List.map_append]
  congr 1
  · refine List.map_congr_left fun l hl => ?_
    rw [List.mem_range] at hl
    simp only
    rw [if_neg (by omega)]
  · simp

abbrev gScopeO : Scope := { kind := .function, names := [(".0", .local), ("line", .local), ("range", .globalImplicit), ("box", .free), ("wide", .free)], isGenerator := false, isCoroutine := false }
abbrev gScopeI : Scope := { kind := .function, names := [(".0", .local), ("spot", .local), ("_law_take", .globalImplicit), ("box", .free)], isGenerator := false, isCoroutine := false }

/-- one row of the grid -/
theorem Ev_row (G : Gd mg mb (KK P) h₀) (ht : prog.given.tree = none) {sc : List Int} (hsc : sc.length ≤ 2 ^ 20) {b : Addr} {i wide : Nat} {p1 p2 p3 p4 p5 p6 p7 p8 p9 cpos pos : Pos} {kk0 kk1 : Nat} {cells : List (Str × Addr)} {C : Addr}
    (hb : μ b = some (boxV sc i)) (hi : i ≤ 1000) (hw : wide ≤ 1000) (hbox : ρ "box" = some (.mt b)) (hwd : ρ "wide" = some (.int (wide : Int)))
    {Φ : V → Mu → Prop} (h : ∀ v : Nat → Int, (∀ l, l < wide → (v l).natAbs ≤ 2) → Φ (.lst (rowV wide v)) (muSet μ b (boxV sc (i + wide)))) :
    Ev h₀ prog w (n + 2) (compEnvC gScopeO cells C (lawEnv P L fa cd)) ρ μ (.ListComp (.BinOp (.Call (.Name "_law_take" p1) [.Name "box" p2, .Constant (.int 5) kk0 p3] [] p4) .Sub (.Constant (.int 2) kk1 p5) p9) [⟨.Name "spot" cpos, .Call (.Name "range" p6) [.Name "wide" p7] [] p8, [], 0⟩] gScopeI pos) Φ := by
  refine Ev.freezeG (Ev_compM (own := []) (ScopeOk.of (by kernel_rfl)) ?_ (by intro _; rfl))
  refine It_range1 G (by kernel_rfl) (by kernel_rfl) (G.name (no_range P)) Boot.«range» ?_ (by decide) (by kernel_rfl) (by kernel_rfl) (by kernel_rfl)
  refine Ev_name (by kernel_rfl) hwd ⟨wide, rfl, by omega, by rw [rangeV_length]; omega, ?_⟩
  refine ⟨fun k res μ' => ∃ v : Nat → Int, (∀ l, l < k → (v l).natAbs ≤ 2) ∧ res = rowV k v ∧ μ' = muSet μ b (boxV sc (i + k)) ∧ k ≤ wide, ⟨fun _ => 0, fun l hl => (nomatch hl), rfl, ?_, Nat.zero_le _⟩, ?_, ?_, ?_⟩
  · funext x; unfold muSet
    by_cases hx : x = b
    · subst hx; simp [hb]
    · simp [hx]
  · rintro k res μ' ⟨v, _, rfl, rfl, hk⟩
    exact ⟨by simp [rowV], dom_setSame hb⟩
  · rintro C cells D k x res μ' hx ⟨v, hv, rfl, rfl, hk⟩ hD
    obtain ⟨hk', rfl⟩ := rangeV_get hx
    have hbD : b ≠ D := fun q => by subst q; rw [muSet_self] at hD; cases hD
    refine ⟨_, Asg.name (notFree (by kernel_rfl)) (by kernel_rfl), upd_sub (by kernel_rfl), TsF_nil ⟨muSet μ b (boxV sc (i + k)), rfl, hD, fun q => (nomatch q), fun _ => ?_⟩⟩
    refine Ev_bin ?_
    refine Ev_def G (ok_law_take P) (by kernel_rfl) ?_ (by kernel_rfl) (by kernel_rfl) (by kernel_rfl)
    refine Evs_cons (Ev_name (by kernel_rfl) hbox ?_) (by kernel_rfl)
    refine Evs_cons (Ev_int ?_) (by kernel_rfl)
    refine Evs_nil (Fn.up (fn_take_ (n := n + 1) (many := 5) (b := b) (sc := sc) (i := i + k) G ht (by omega) ?_ hsc (by omega) fun r hr => ?_) (by omega))
    · unfold muSet; rw [if_neg hbD, if_pos rfl]
    refine Ev_int (op_sub ?_)
    refine ⟨muSet μ b (boxV sc (i + k + 1)), ?_, ?_, fun l => if l = k then (r : Int) - 2 else v l, fun l hl => ?_, ?_, rfl, hk'⟩
    · rw [cells_shift hbD, muSet_set]
    · unfold muSet at hD ⊢
      rw [if_neg (Ne.symm hbD)] at hD ⊢; exact hD
    · simp only
      split
      · omega
      · exact hv l (by omega)
    · rw [rowV_snoc]
  · rintro res μ' a ⟨v, hv, rfl, rfl, hk⟩ ha ha'
    rw [rangeV_length] at *
    exact ⟨a, _, _, ha, ha', rfl, rfl, h v hv⟩

/-- the state after the law's first four statements -/
structure Pre (sc : List Int) (ρ : Str → Option V) (μ : Mu) : Prop where
  all : ∃ (high wide : Nat) (g : Nat → Nat → Int) (b : Addr) (i : Nat), 1 ≤ high ∧ high ≤ 3 ∧ 1 ≤ wide ∧ wide ≤ 3 ∧ (∀ i l, i < high → l < wide → (g i l).natAbs ≤ 2) ∧ μ = muSet emp b (boxV sc i) ∧
    ρ "high" = some (.int (high : Int)) ∧ ρ "wide" = some (.int (wide : Int)) ∧ ρ "grid" = some (gridF high wide g) ∧ ρ "a" = some (matF high wide fun i l => (g i l : Rat))

theorem law_head (G : Gd mg mb (KK P) h₀) (ht : prog.given.tree = none) {sc : List Int} (hsc : sc.length ≤ 63) (hs : ρ "script" = some (.lst (intsV sc))) {Φ : Fl → (Str → Option V) → Mu → Prop}
    {R : List Stmt} (h : ∀ ρ' μ', Pre (sc.take 14) ρ' μ' → Exs h₀ prog w (n + 4) (lawEnv P L fa cd) ρ' μ' R Φ) : Exs h₀ prog w (n + 4) (lawEnv P L fa cd) ρ emp ((lawBody P).take 4 ++ R) Φ := by
  refine Exs_cons (Ex_assign (x := "box") (by kernel_rfl) ?_ (by kernel_rfl))
  refine Ev_listM (Evs_cons ?_ (by kernel_rfl))
  refine Ev_callT G (by kernel_rfl) (G.name (no_list P)) Boot.«list» ?_ (by decide) (by kernel_rfl) (by kernel_rfl) (by kernel_rfl) (by kernel_rfl)
  refine Evs_cons ?_ (by kernel_rfl)
  refine Ev_upto (Ev_name (by kernel_rfl) hs (Ev_int ⟨14, intsV sc, rfl, rfl, by simp [intsV]; omega, ?_⟩)) (by with_unfolding_all (intros; rfl))
  have e14 : (intsV sc).take 14 = intsV (sc.take 14) := by simp [intsV]
  rw [e14]
  refine Evs_nil (fn_list rfl (by simp [intsV]; omega) ?_)
  refine Evs_cons (Ev_int (Evs_nil ⟨by simp, fun b hb => ?_⟩)) (by kernel_rfl)
  have hl14 : (sc.take 14).length ≤ 2 ^ 20 := by simp; omega
  generalize sc.take 14 = sc at hl14 h
  have eb : [V.lst (intsV sc), .int 0] = boxV sc 0 := rfl
  rw [eb]
  refine Exs_cons (Ex_assign2 rfl ?_ (by kernel_rfl) (by kernel_rfl))
  refine Ev_tuple (Evs_cons (Ev_bin (Ev_int ?_)) (by kernel_rfl))
  refine Ev_def G (ok_law_take P) (by kernel_rfl) ?_ (by kernel_rfl) (by kernel_rfl) (by kernel_rfl)
  refine Evs_cons (Ev_name (by kernel_rfl) rfl ?_) (by kernel_rfl)
  refine Evs_cons (Ev_int ?_) (by kernel_rfl)
  refine Evs_nil (Fn.up (fn_take_ (n := n) (many := 3) G ht (by omega) muSet_self hl14 (by omega) fun hi0 hhi => ?_) (by omega))
  refine op_add (Evs_cons (Ev_bin (Ev_int ?_)) (by kernel_rfl))
  refine Ev_def G (ok_law_take P) (by kernel_rfl) ?_ (by kernel_rfl) (by kernel_rfl) (by kernel_rfl)
  refine Evs_cons (Ev_name (by kernel_rfl) rfl ?_) (by kernel_rfl)
  refine Evs_cons (Ev_int ?_) (by kernel_rfl)
  refine Evs_nil (Fn.up (fn_take_ (n := n) (many := 3) G ht (by omega) muSet_self hl14 (by omega) fun wi0 hwi => ?_) (by omega))
  refine op_add (Evs_nil ⟨by simp, ?_⟩)
  rw [muSet_set, muSet_set]
  have eh : (1 : Int) + (hi0 : Int) = ((hi0 + 1 : Nat) : Int) := by omega
  have ew : (1 : Int) + (wi0 : Int) = ((wi0 + 1 : Nat) : Int) := by omega
  rw [eh, ew]
  have hh1 : 1 ≤ hi0 + 1 := by omega
  have hh3 : hi0 + 1 ≤ 3 := by omega
  have hw1 : 1 ≤ wi0 + 1 := by omega
  have hw3 : wi0 + 1 ≤ 3 := by omega
  generalize hi0 + 1 = high at hh1 hh3
  generalize wi0 + 1 = wide at hw1 hw3
  refine ⟨_, Asg.pair trivial trivial (by kernel_rfl) (by kernel_rfl), ?_⟩
  refine Exs_cons (Ex_assign (x := "grid") (by kernel_rfl) ?_ (by kernel_rfl))
  refine Ev.freezeG (Ev_compM (own := []) (ScopeOk.of (by kernel_rfl)) ?_ (by intro _; rfl))
  refine It_range1 G (by kernel_rfl) (by kernel_rfl) (G.name (no_range P)) Boot.«range» ?_ (by decide) (by kernel_rfl) (by kernel_rfl) (by kernel_rfl)
  refine Ev_name (by kernel_rfl) rfl ⟨high, rfl, by omega, by rw [rangeV_length]; omega, ?_⟩
  refine ⟨fun k res μ' => ∃ g : Nat → Nat → Int, (∀ i l, i < k → l < wide → (g i l).natAbs ≤ 2) ∧ res = (List.range k).map (fun i => V.lst (rowV wide (g i))) ∧ μ' = muSet emp b (boxV sc (0 + 1 + 1 + k * wide)) ∧ k ≤ high, ⟨fun _ _ => 0, fun i l hi => (nomatch hi), rfl, by simp, Nat.zero_le _⟩, ?_, ?_, ?_⟩
  · rintro k res μ' ⟨g, _, rfl, rfl, hk⟩
    refine ⟨by simp, ?_⟩
    funext x; rw [eq_iff_iff, dom_set, dom_set]
  · rintro C cells D k x res μ' hx ⟨g, hg, rfl, rfl, hk⟩ hD
    obtain ⟨hk', rfl⟩ := rangeV_get hx
    have hbD : b ≠ D := fun q => by subst q; rw [muSet_self] at hD; cases hD
    refine ⟨_, Asg.name (notFree (by kernel_rfl)) (by kernel_rfl), upd_sub (by kernel_rfl), TsF_nil ⟨muSet emp b (boxV sc (0 + 1 + 1 + k * wide)), rfl, hD, fun q => (nomatch q), fun _ => ?_⟩⟩
    have hkw : k * wide ≤ 3 * 3 := Nat.mul_le_mul (by omega) hw3
    refine Ev_row (n := n + 2) G ht hl14 (b := b) (i := 0 + 1 + 1 + k * wide) (wide := wide) ?_ (by omega) (by omega) rfl rfl fun v hv => ?_
    · unfold muSet; rw [if_neg hbD, if_pos rfl]
    refine ⟨muSet emp b (boxV sc (0 + 1 + 1 + k * wide + wide)), ?_, ?_, fun i => if i = k then v else g i, fun i l hi hl => ?_, ?_, ?_, hk'⟩
    · rw [cells_shift hbD, muSet_set]
    · unfold muSet at hD ⊢
      rw [if_neg (Ne.symm hbD)] at hD ⊢; exact hD
    · simp only
      split
      · exact hv l hl
      · exact hg i l (by omega) hl
    · rw [List.range_succ, List.map_append]
      congr 1
      · refine List.map_congr_left fun i hi => ?_
        rw [List.mem_range] at hi
        simp only
        rw [if_neg (by omega)]
      · simp
    · rw [Nat.add_mul, Nat.one_mul]; congr 2; omega
  · rintro res μ' aa ⟨g, hg, rfl, rfl, hk⟩ ha ha'
    rw [rangeV_length] at *
    refine ⟨aa, _, _, ha, ha', rfl, rfl, ?_⟩
    refine Exs_cons (Ex_assign (x := "a") (by kernel_rfl) ?_ (by kernel_rfl))
    refine Ev_def G (ok_from_whole P) (by kernel_rfl) ?_ (by kernel_rfl) (by kernel_rfl) (by kernel_rfl)
    refine Evs_cons (Ev_name (by kernel_rfl) rfl ?_) (by kernel_rfl)
    refine Evs_nil (Fn.up (fn_from_whole (n := n) (r := high) (c := wide) (g := g) G (by omega) (by omega) ?_) (by omega))
    exact h _ _ ⟨high, wide, g, b, _, hh1, hh3, hw1, hw3, hg, rfl, rfl, rfl, rfl, rfl⟩
end

end Mine
end

section
open PySem PySem.Calls PyProof.Rows PySem.W
set_option maxRecDepth 100000
namespace Mine

section
variable {M : Model} {A : Around} {E : Value → Shared → Prop} {s : Shared} {env : Env}
theorem execs_app (l r : List Stmt) : execs (l ++ r) env = execs l env >>= fun f => match f with
    | .next => execs r env
    | f => pure f := by
  induction l with
  | nil => show _ = (pure Flow.next >>= _); rw [pure_bind]; rfl
  | cons st l ih =>
    rw [List.cons_append, execs_cons, execs_cons, bind_assoc]
    congr 1
    funext f
    cases f with
    | next => exact ih
    | _ => rw [pure_bind]
theorem Wp_app {l r : List Stmt} {Q : Flow → Shared → Prop} (h : wpAny M A (execs l env) (fun f s' => match f with | .next => wpAny M A (execs r env) Q E s' | f => Q f s') E s) : wpAny M A (execs (l ++ r) env) Q E s := by
  rw [execs_app]
  refine wpAny_bind (wpAny_mono h (fun f s' h' => ?_) fun _ _ e => e)
  cases f <;> first | exact h' | exact wpAny_pure h'
end

end Mine
end

section
open PySem PySem.Calls PyProof.Rows PySem.W
set_option maxRecDepth 100000
namespace Mine

/-- what the lambda's statement keeps -/
structure Kp (L : Addr) (h h' : Heap) : Prop where
  keep : ∀ b o, b ≠ L → b ≠ 216 → h.get? b = some o → h'.get? b = some o
  ns : ∀ m, h.Ns L m → h'.Ns L m
theorem Kp.trans {L : Addr} {h h' h'' : Heap} (a : Kp L h h') (b : Kp L h' h'') : Kp L h h'' := ⟨fun x o n1 n2 g => b.keep x o n1 n2 (a.keep x o n1 n2 g), fun m n => b.ns m (a.ns m n)⟩

section
variable {mg mb : Str → Option Value} {h₀ : Heap} {prog : Program} {w : World} {n : Nat} {P : Params} {A : Around} {s : Shared} {ρ : Str → Option V} {env : Env} {L fa : Addr} {ps : Array Value}

theorem solid_ne {h : Heap} {b L : Addr} {o : Obj} {m} (so : Solid o) (g : h.get? b = some o) (n : h.Ns L m) : b ≠ L := solid_notDict so g n
theorem solid_tab {h : Heap} {b : Addr} {o : Obj} (so : Solid o) (g : h.get? b = some o) (t : h.get? 216 = some (tabObj ps)) : b ≠ 216 := fun e => by
  subst e; rw [t] at g; cases g
  rcases so with ⟨_, _, e⟩ | ⟨_, e⟩ <;> cases e
theorem Kp.trans_ {h h' : Heap} {m} (k : Kp L h h') (n : h.Ns L m) (t : h.get? 216 = some (tabObj ps)) : Trans (dom emp) h (dom emp) h' := fun b o so nx g => ⟨nx, k.keep b o (solid_ne so g n) (solid_tab so g t) g⟩
theorem Frm.kp {h h' : Heap} (F : Frm env ρ (dom emp) h) (k : Kp L h h') (hL : env.locals = L) (t : h.get? 216 = some (tabObj ps)) : Frm env ρ (dom emp) h' := by
  obtain ⟨ml, nl, _⟩ := F.ns
  rw [hL] at nl
  refine F.trans (k.trans_ nl t) (fun m nn => hL ▸ k.ns m (hL ▸ nn)) fun x c o _ i => ?_
  obtain ⟨o', g, d⟩ := i
  refine ⟨o', k.keep c o' (fun e => ?_) (fun e => ?_) g, d⟩
  · exact dict_notCell nl ⟨o', g, d⟩ e
  · subst e; rw [t] at g; cases g; cases d

theorem Told (G : Gd mg mb (KK P) h₀) (C : CodeHd h₀ 218 216) (hBA : ∀ h : Heap, Ext h₀ h → h.BuiltinsAt mg 216) (hn : h₀.get? 216 = none) (hnL : h₀.get? L = none) {x : Str} {p0 p1 p2 q0 q1 lpos : Pos} {va : V} {Φ : V → Prop}
    (hcall : ∀ (h₂ : Heap) (f : Addr), Gd mg mb (KK P) h₂ → LamOk h₂ f x p0 p1 p2 va → Fn h₂ prog w n (.ref f) emp [] (fun v m => m = emp ∧ Φ v) ∨ (FnX h₂ prog w n (.ref f) [] ∧ Φ (.str "shape")))
    (rm : Room (n + 1) A) (hfr : A.frames = some [lawEnv P L fa (.ref 218)]) (ex : Ext h₀ s.heap) (F : Frm (lawEnv P L fa (.ref 218)) ρ (dom emp) s.heap) (ha : ρ "a" = some va)
    (ht : s.heap.get? 216 = some (tabObj ps)) (tr : TriplesOk ps.toList) (hca : codeAmong lpos ps.toList = none) {E : Value → Shared → Prop} {Q : Value → Shared → Prop}
    (hQ : ∀ r h' tk v c', Φ v → Rep (dom emp) h' v r → Kp L s.heap h' → h'.get? 216 = some (tabObj (ps ++ #[rawInt lpos.line, rawInt lpos.col, .ref c'])) → Q r { s with heap := h', toks := tk }) :
    wpAny (model prog w) A (eval (.Call (.Name "_law_told" q0) [.Lambda ⟨[], [], none, [], [], none, []⟩ (.Call (.Name x p0) [.Name "a" p1] [] p2) (lamScope x) lpos] [] q1) (lawEnv P L fa (.ref 218))) Q E s := by
  have O := ok_law_told P
  refine Call_ ?_ (by kernel_rfl)
  refine Name_function_global F.kind (by kernel_rfl) (loadGlobal_global (by rw [F.gl]; exact G.g.keeps ex) (G.name O.hx) ?_) (by decide)
  refine callWith_def (o := { cls := .type "function", data := .func (fdAt (KK P) 214) }) rfl (wpAny_items_cons (kla_eval (by first | rfl | kernel_rfl) ?_) (by kernel_rfl)) (by kernel_rfl)
  obtain ⟨c, ra, hc, hci, hqa⟩ := F.cell "a" va (.inl (by kernel_rfl)) ha
  obtain ⟨ml, nl, _⟩ := id F.ns
  refine kla_makeFunction (mg := mg) (clos := [("a", c)]) ?_ rfl (G.g.keeps ex) rfl (C.keeps ex) ht tr hca (by decide) (hBA _ ex) fun c' ctv h' tk hx' hge hlt hrec htb => ?_
  · refine (closureFor_eq fun y hy => ?_).trans ?_
    · have : y = "a" := by
        simp only [List.mem_cons, List.not_mem_nil, or_false, Prod.mk.injEq] at hy
        rcases hy with ⟨e, _⟩ | ⟨_, e⟩
        · exact e
        · cases e
      subst this
      exact ⟨c, hc⟩
    · show pure [(Str.ofString "a", ((lawEnv P L fa (.ref 218)).cells.lookup (Str.ofString "a")).getD 0)] = _
      rw [hc]; rfl
  have eq : (lawEnv P L fa (.ref 218)).qual ++ Str.ofString "<lambda>" = Str.ofString "law.<locals>.<lambda>" := by kernel_rfl
  rw [eq] at hrec ⊢
  have kH : ∀ b o, b ≠ 216 → s.heap.get? b = some o → (h'.push (kla_obj "<lambda>" "law.<locals>.<lambda>" ⟨[], [], none, [], [], none, []⟩ (.Call (.Name x p0) [.Name "a" p1] [] p2) (lamScope x) [("a", c)] ((mg "__name__").getD .none) c' ctv)).get? b = some o := fun b o hb g => Heap.get?_push_of_some _ (hx' b o hb g)
  have hf : (h'.push (kla_obj "<lambda>" "law.<locals>.<lambda>" ⟨[], [], none, [], [], none, []⟩ (.Call (.Name x p0) [.Name "a" p1] [] p2) (lamScope x) [("a", c)] ((mg "__name__").getD .none) c' ctv)).get? h'.objs.size = some _ := Heap.get?_push_size h' rfl
  have htH : (h'.push (kla_obj "<lambda>" "law.<locals>.<lambda>" ⟨[], [], none, [], [], none, []⟩ (.Call (.Name x p0) [.Name "a" p1] [] p2) (lamScope x) [("a", c)] ((mg "__name__").getD .none) c' ctv)).get? 216 = some (tabObj (ps ++ #[rawInt lpos.line, rawInt lpos.col, .ref c'])) := Heap.get?_push_of_some _ htb
  have hrH : (h'.push (kla_obj "<lambda>" "law.<locals>.<lambda>" ⟨[], [], none, [], [], none, []⟩ (.Call (.Name x p0) [.Name "a" p1] [] p2) (lamScope x) [("a", c)] ((mg "__name__").getD .none) c' ctv)).CodeRec (.ref c') "law.<locals>.<lambda>" := hrec.keeps fun b o g => Heap.get?_push_of_some _ g
  generalize (h'.push (kla_obj "<lambda>" "law.<locals>.<lambda>" ⟨[], [], none, [], [], none, []⟩ (.Call (.Name x p0) [.Name "a" p1] [] p2) (lamScope x) [("a", c)] ((mg "__name__").getD .none) c' ctv)) = H at kH hf htH hrH
  generalize h'.objs.size = f at hf
  refine wpAny_items_nil ?_
  have exH : Ext h₀ H := fun b o g => kH b o (fun q => by rw [q, hn] at g; cases g) (ex b o g)
  refine ⟨exH _ _ (G.X _ _ O.ho), ?_⟩
  -- the frame's locals hidden
  have nlH : H.Ns L ml := by
    obtain ⟨o, es, ep, g, d, r⟩ := nl
    exact ⟨o, es, ep, kH _ _ (fun q => by rw [show (lawEnv P L fa (.ref 218)).locals = L from rfl] at g; rw [show L = 216 from q, ht] at g; cases g; cases d) g, d, r⟩
  have hb : ∀ b o, b ≠ L → H.get? b = some o → (H.hide L).get? b = some o := fun b o hbL g => (Heap.hide_ne H hbL).trans g
  have bH : ∀ b o, (H.hide L).get? b = some o → H.get? b = some o := fun b o g => Heap.of_hide g
  have notL : ∀ b o, (∀ es ep, o.data ≠ .dict es ep) → H.get? b = some o → b ≠ L := fun b o nd g q => by
    obtain ⟨o', es, ep, g', d, _⟩ := nlH
    rw [q, g'] at g; cases g; exact nd _ _ d
  have exB : Ext h₀ (H.hide L) := fun b o g => hb b o (fun q => by rw [q, hnL] at g; cases g) (exH b o g)
  have GB : Gd mg mb (KK P) (H.hide L) := ⟨G.g.keeps exB, G.b.keeps exB, G.nolimit.keeps exB, G.seer.keeps exB, G.X.keeps exB, G.blt⟩
  have lam : LamOk (H.hide L) f x p0 p1 p2 va := by
    refine ⟨c, c', _, _, ra, hb _ _ (notL _ _ (fun _ _ q => by cases q) hf) hf, ?_, ?_, ?_⟩
    · obtain ⟨c₁, oc, vs, tq, e1, g1, d1, r1⟩ := hrH
      exact ⟨c₁, oc, vs, tq, e1, hb _ _ (notL _ _ (fun _ _ q => by rw [d1] at q; cases q) g1) g1, d1, r1⟩
    · obtain ⟨o, g, d⟩ := hci
      have gH := kH c o (fun q => by rw [q, ht] at g; cases g; cases d) g
      exact ⟨o, hb _ _ (notL _ _ (fun _ _ q => by rw [d] at q; cases q) gH) gH, d⟩
    · refine Rep.mono (fun b o so nx g => ⟨nx, ?_⟩) _ _ hqa
      have gH := kH b o (solid_tab so g ht) g
      exact hb _ _ (notL _ _ (fun _ _ q => by rcases so with ⟨_, _, e⟩ | ⟨_, e⟩ <;> (rw [e] at q; cases q)) gH) gH
  have hfo : ∃ o fd, (H.hide L).get? f = some o ∧ o.data = .func fd := ⟨_, _, hb _ _ (notL _ _ (fun _ _ q => by cases q) hf) hf, rfl⟩
  have kpH : Kp L s.heap H := ⟨fun b o _ n2 g => kH b o n2 g, fun m n => by
    obtain ⟨o, es, ep, g, d, r⟩ := n
    exact ⟨o, es, ep, kH _ _ (fun q => by rw [q, ht] at g; cases g; cases d) g, d, r⟩⟩
  rcases hcall (H.hide L) f GB lam with hF | ⟨hX, hΦ⟩
  · refine fn_told GB hfo hF A { s with heap := H, toks := tk } E Q rm bH muOk_emp _ (Reps.cons rfl Reps.nil) fun r s' v μ' p R q => ?_
    obtain ⟨rfl, hΦ⟩ := p
    obtain ⟨hh, tk', es⟩ := R.same
    subst es
    exact hQ r hh tk' v c' hΦ q (kpH.trans ⟨fun b o _ _ g => R.keep b o not_emp g, fun m n => by obtain ⟨o, es, ep, g, r⟩ := n; exact ⟨o, es, ep, R.keep _ _ not_emp g, r⟩⟩) (R.keep _ _ not_emp htH)
  · refine toldx (s := { s with heap := H, toks := tk }) (base := H.hide L) GB hfo hX rm hfr (fun _ _ g => g) bH (.cons (by rw [F.kind]; decide) rfl nlH (Heap.hide_self H L) trivial) fun h₅ tk₅ t4 st up => ?_
    have hne : (216 : Addr) ≠ L := notL _ _ (fun _ _ q => by cases q) htH
    exact hQ _ h₅ tk₅ (.str "shape") c' hΦ ⟨t4, rfl⟩ (kpH.trans ⟨fun b o n1 _ g => st b o (hb b o n1 g), fun m n => up.ns n⟩) (st _ _ (hb _ _ hne htH))
end

end Mine
end

section
open PySem PySem.Calls PyProof.Rows PySem.W
set_option maxRecDepth 100000
namespace Mine

section
variable {mg mb : Str → Option Value} {h₀ : Heap} {prog : Program} {w : World} {n : Nat} {P : Params} {A : Around} {s : Shared} {ρ : Str → Option V} {env : Env} {L fa : Addr} {μ μ₀ : Mu} {s₀ : Shared}

theorem FS.rebase {s₁ : Shared} (F : FS AllB h₀ s₀ μ₀ env ρ μ s) (fr : Frm env ρ (dom emp) s₁.heap) (ex : Ext h₀ s₁.heap) : FS AllB h₀ { s₁ with heap := h₀ } emp env ρ emp s₁ := by
  have back : ∀ b, s₀.heap.get? b = none → h₀.get? b = none := fun b e => by
    cases g : h₀.get? b with
    | none => rfl
    | some o => rw [F.ext0 b o g] at e; cases e
  exact ⟨fr, ⟨⟨_, _, rfl⟩, fun b o _ g => ex b o g, muOk_emp, fun _ d => absurd d not_emp, fun _ d _ => absurd d not_emp⟩, fun _ _ g => g, fun _ d => absurd d not_emp, back _ F.freshL, fun x c hB hk hc => back _ (F.freshC x c hB hk hc)⟩

theorem law_S (G : Gd mg mb (KK P) h₀) (C : CodeHd h₀ 218 216) (hBA : ∀ h : Heap, Ext h₀ h → h.BuiltinsAt mg 216) (hn : h₀.get? 216 = none) {va : V} {Φ₁ Φ₂ : V → Prop}
    (h1 : ∀ (h₂ : Heap) (f : Addr) (p0 p1 p2 : Pos), Gd mg mb (KK P) h₂ → LamOk h₂ f "minpoly" p0 p1 p2 va → Fn h₂ prog w n (.ref f) emp [] (fun v m => m = emp ∧ Φ₁ v) ∨ (FnX h₂ prog w n (.ref f) [] ∧ Φ₁ (.str "shape")))
    (h2 : ∀ (h₂ : Heap) (f : Addr) (p0 p1 p2 : Pos), Gd mg mb (KK P) h₂ → LamOk h₂ f "charpoly" p0 p1 p2 va → Fn h₂ prog w n (.ref f) emp [] (fun v m => m = emp ∧ Φ₂ v) ∨ (FnX h₂ prog w n (.ref f) [] ∧ Φ₂ (.str "shape")))
    (rm : Room (n + 1) A) (hfr : A.frames = some [lawEnv P L fa (.ref 218)]) (F : FS AllB h₀ s₀ μ₀ (lawEnv P L fa (.ref 218)) ρ μ s) (ha : ρ "a" = some va)
    (ht : s.heap.get? 216 = some (tabObj #[])) {E : Value → Shared → Prop} {Q : Flow → Shared → Prop}
    (hQ : ∀ s' v1 v2, Φ₁ v1 → Φ₂ v2 → FS AllB h₀ { s' with heap := h₀ } emp (lawEnv P L fa (.ref 218)) (upd (upd ρ "whole" v2) "least" v1) emp s' → (∃ h tk, s' = { s with heap := h, toks := tk }) → (∃ c1 c2, s'.heap.get? 216 = some (tabObj ((#[] ++ #[rawInt 141, rawInt 0, .ref c1]) ++ #[rawInt 142, rawInt 0, .ref c2]))) → wpAny (model prog w) A (execs ((lawBody P).drop 5) (lawEnv P L fa (.ref 218))) Q E s') :
    wpAny (model prog w) A (execs ((lawBody P).drop 4) (lawEnv P L fa (.ref 218))) Q E s := by
  have hnL : h₀.get? L = none := by
    cases g : h₀.get? L with
    | none => rfl
    | some o => have := F.ext0 L o g; rw [F.freshL] at this; cases this
  have fr0 : Frm (lawEnv P L fa (.ref 218)) ρ (dom emp) s.heap := F.frm.trans (fun b o _ _ g => ⟨not_emp, g⟩) (fun _ n => n) fun _ _ _ _ i => i
  have ex0 := F.ext
  refine wpAny_execs_cons (Assign_Tuple_swapped (names := ["least", "whole"]) ?_ (by kernel_rfl) (by kernel_rfl))
  refine PySem.wpAny_Tuple ?_
  refine wpAny_items_cons (Told G C hBA hn hnL (h1 · · _ _ _) rm hfr ex0 fr0 ha ht trivial rfl fun r1 h' tk v1 c1 hΦ1 q1 k1 ht1 => ?_) (by kernel_rfl)
  have fr1 := fr0.kp k1 rfl ht
  have ex1 : Ext h₀ h' := fun b o g => k1.keep b o (fun q => by rw [q, hnL] at g; cases g) (fun q => by rw [q, hn] at g; cases g) (ex0 b o g)
  refine wpAny_items_cons (Told (s := { s with heap := h', toks := tk }) G C hBA hn hnL (h2 · · _ _ _) rm hfr ex1 fr1 ha ht1 (by trivial) ?_ fun r2 h'' tk2 v2 c2 hΦ2 q2 k2 ht2 => ?_) (by kernel_rfl)
  · rfl
  refine wpAny_items_nil ⟨by rw [sizeLine_eq]; simp, ?_⟩
  have fr2 := fr1.kp k2 rfl ht1
  have ex2 : Ext h₀ h'' := fun b o g => k2.keep b o (fun q => by rw [q, hnL] at g; cases g) (fun q => by rw [q, hn] at g; cases g) (ex1 b o g)
  obtain ⟨ml, nl, _⟩ := fr1.ns
  have q1' : Rep (dom emp) h'' v1 r1 := Rep.mono (k2.trans_ nl ht1) _ _ q1
  have kp3 := Ext.push h'' { cls := .type "tuple", data := .seq [r1, r2].toArray }
  have g3 : (h''.push { cls := .type "tuple", data := .seq [r1, r2].toArray }).get? h''.objs.size = some { cls := .type "tuple", data := .seq [r1, r2].toArray } := Heap.get?_push_size _ rfl
  have hz : ([r1, r2] : List Value).toArray.size = 2 := rfl
  rw [show (["least", "whole"] : List Str).length = ([r1, r2] : List Value).toArray.size from rfl]
  refine unpackItems_tuple rm.handled ⟨_, g3, rfl, _, rfl⟩ fun h4 he4 => ?_
  have kp4 : Ext h'' h4 := fun b o e => he4 b o (Nat.ne_of_lt (Heap.lt_size (kp3 b o e))) (kp3 b o e)
  have T4 : Trans (dom emp) h'' (dom emp) h4 := fun b o _ nx g => ⟨nx, kp4 b o g⟩
  have fr4 : Frm (lawEnv P L fa (.ref 218)) ρ (dom emp) h4 := fr2.trans T4 (fun m n => by obtain ⟨o, es, ep, g, r⟩ := n; exact ⟨o, es, ep, kp4 _ _ g, r⟩) fun x c o _ i => by
    obtain ⟨o', g, d⟩ := i; exact ⟨o', kp4 _ _ g, d⟩
  have F4 := F.rebase (s₁ := { s with heap := h4, toks := tk2 }) fr4 (fun b o g => kp4 b o (ex2 b o g))
  show wpAny _ _ (do holding [r1] (bindName (lawEnv P L fa (.ref 218)) "whole" r2); holding [] (bindName (lawEnv P L fa (.ref 218)) "least" r1); pure ()) _ _ _
  refine wpAny_bind (wpAny_holding (wpAny_bindName (F4.sto trivial (by kernel_rfl) (Rep.mono T4 _ _ q2) fun s5 F5 T5 => ?_)))
  refine wpAny_bind (wpAny_holding (wpAny_bindName (F5.sto trivial (by kernel_rfl) (Rep.mono T5.trans_ _ _ (Rep.mono T4 _ _ q1')) fun s6 F6 T6 => ?_)))
  refine wpAny_pure ?_
  obtain ⟨hh, tkk, es⟩ := F6.res.same
  refine hQ s6 v1 v2 hΦ1 hΦ2 ?_ ⟨hh, tkk, es⟩ ⟨c1, c2, T6 216 _ ⟨fun _ _ q => (by cases q), fun _ q => (by cases q)⟩ (T5 216 _ ⟨fun _ _ q => (by cases q), fun _ q => (by cases q)⟩ (kp4 216 _ ht2))⟩
  subst es
  exact ⟨F6.frm, ⟨⟨_, _, rfl⟩, F6.res.keep, F6.res.mu, F6.res.grow, F6.res.fresh⟩, F6.ext0, F6.new0, F6.freshL, F6.freshC⟩
end

end Mine
end

section
open PySem PySem.Calls PyProof.Rows PySem.W
namespace Mine

local macro_rules
  | `(tactic| k_units) => `(tactic| repeat (first
    | with_reducible refine Ev_bin ?_
    | with_reducible refine Evs_cons ?_ (by kernel_rfl)
    | with_reducible refine Evs_nil ?_
    | with_reducible refine Ev_idx0 ?_
    | with_reducible refine Ev_idx1 ?_
    | with_reducible refine ⟨_, _, rfl, rfl, ?_⟩
    | ((with_reducible refine' Ev_name ?hk ?hv ?_ (by kernel_rfl) (by kernel_rfl)); (case hk => kernel_rfl); (case hv => exact rfl))
    | with_reducible refine Ev_int ?_
    | with_reducible refine Ev_tuple ?_
    | with_reducible refine Exs_cons ?_
    | with_reducible refine Ex_ret ?_
    | with_reducible refine Ev_cmp ?_ (by kernel_rfl)
    | with_reducible refine Ts_cmp ?_ (by kernel_rfl)
    | with_reducible refine Ex_if ?_
    | with_reducible refine op_add ?_
    | with_reducible refine op_sub ?_))

section
variable {mg mb : Str → Option Value} {h₀ : Heap} {prog : Program} {w : World} {n : Nat} {μ : Mu} {P : Params} {env : Env} {ρ : Str → Option V} {L fa : Addr} {cd : Value}

theorem op_eqS {a b : Str} {Φ : V → Mu → Prop} (h : Φ (.bool (a == b)) μ) : Op2 h₀ prog w n μ (compareOp .Eq) (.str a) (.str b) Φ := by
  rintro A s E Q rm ex M _ _ ⟨t, rfl⟩ ⟨u, rfl⟩ hQ
  exact PyProof.Rows.eq_str (hQ _ _ _ μ h (.refl M) rfl)

theorem matF_congr {r c : Nat} {f g : Nat → Nat → Rat} (h : ∀ i, i < r → ∀ l, l < c → f i l = g i l) : matF r c f = matF r c g := by
  unfold matF rowF
  congr 1
  refine List.map_congr_left fun i hi => ?_
  rw [List.mem_range] at hi
  congr 1
  refine List.map_congr_left fun l hl => ?_
  rw [List.mem_range] at hl
  rw [h i hi l hl]
theorem gridF_congr {r c : Nat} {f g : Nat → Nat → Int} (h : ∀ i, i < r → ∀ l, l < c → f i l = g i l) : gridF r c f = gridF r c g := by
  unfold gridF
  congr 1
  refine List.map_congr_left fun i hi => ?_
  rw [List.mem_range] at hi
  congr 1
  refine List.map_congr_left fun l hl => ?_
  rw [List.mem_range] at hl
  rw [h i hi l hl]

theorem isDs_map {α : Type} {f : α → V} : ∀ {l : List α}, (∀ x ∈ l, isD (f x) = true) → isDs (l.map f) = true
  | [], _ => rfl
  | x :: l, h => by
    rw [List.map_cons]
    show (isD (f x) && isDs (l.map f)) = true
    rw [h x List.mem_cons_self, isDs_map fun y hy => h y (List.mem_cons_of_mem _ hy)]; rfl
theorem depth_map {α : Type} {f : α → V} {k : Nat} : ∀ {l : List α}, (∀ x ∈ l, (pd (f x)).depth ≤ k) → PyData.depthAll (pds (l.map f)) ≤ k
  | [], _ => by simp [pds, PyData.depthAll]
  | x :: l, h => by
    rw [List.map_cons]
    show PyData.depthAll (pd (f x) :: pds (l.map f)) ≤ k
    have h1 := h x List.mem_cons_self
    have h2 := depth_map fun y hy => h y (List.mem_cons_of_mem _ hy)
    simp only [PyData.depthAll]
    omega
theorem isD_matF {r c : Nat} {f : Nat → Nat → Rat} : isD (matF r c f) = true := isDs_map fun _ _ => isDs_map fun _ _ => isD_ratV
theorem isD_gridF {r c : Nat} {f : Nat → Nat → Int} : isD (gridF r c f) = true := isDs_map fun _ _ => isDs_map fun _ _ => rfl
theorem depth_matF {r c : Nat} {f : Nat → Nat → Rat} : (pd (matF r c f)).depth ≤ 64 := by
  have h1 : ∀ q, (pd (ratV q)).depth ≤ 4 := fun q => by simp [ratV, pd, pds, PyData.depth, PyData.depthAll]
  have h2 : ∀ i, (pd (rowF c (f i))).depth ≤ 5 := fun i => by
    have := depth_map (l := List.range c) (f := fun j => ratV (f i j)) (k := 4) fun x _ => h1 _
    show PyData.depth (.list (pds _)) ≤ 5
    simp only [PyData.depth]; omega
  have := depth_map (l := List.range r) (f := fun i => rowF c (f i)) (k := 5) fun x _ => h2 _
  show PyData.depth (.list (pds _)) ≤ 64
  simp only [PyData.depth]; omega
theorem depth_gridF {r c : Nat} {f : Nat → Nat → Int} : (pd (gridF r c f)).depth ≤ 64 := by
  have h1 : ∀ q, (pd (.int q)).depth ≤ 4 := fun q => by simp [pd, PyData.depth]
  have h2 : ∀ i, (pd (.lst ((List.range c).map fun j => .int (f i j)))).depth ≤ 5 := fun i => by
    have := depth_map (l := List.range c) (f := fun j => .int (f i j)) (k := 4) fun x _ => h1 _
    show PyData.depth (.list (pds _)) ≤ 5
    simp only [PyData.depth]; omega
  have := depth_map (l := List.range r) (f := fun i => .lst ((List.range c).map fun j => .int (f i j))) (k := 5) fun x _ => h2 _
  show PyData.depth (.list (pds _)) ≤ 64
  simp only [PyData.depth]; omega
theorem eqv_map {α : Type} {f g : α → V} : ∀ {l : List α}, PyData.eqvAll (pds (l.map f)) (pds (l.map g)) = true → ∀ x ∈ l, PyData.eqv (pd (f x)) (pd (g x)) = true
  | [], _, x, hx => nomatch hx
  | y :: l, h, x, hx => by
    rw [List.map_cons, List.map_cons] at h
    have h' : (PyData.eqv (pd (f y)) (pd (g y)) && PyData.eqvAll (pds (l.map f)) (pds (l.map g))) = true := h
    rw [Bool.and_eq_true] at h'
    rcases List.mem_cons.mp hx with rfl | hx
    · exact h'.1
    · exact eqv_map h'.2 x hx
theorem eqv_gridF {r c : Nat} {f g : Nat → Nat → Int} (h : PyData.eqv (pd (gridF r c f)) (pd (gridF r c g)) = true) : ∀ i, i < r → ∀ l, l < c → f i l = g i l := fun i hi l hl => by
  have h1 := eqv_map (l := List.range r) (f := fun i => .lst ((List.range c).map fun j => .int (f i j))) (g := fun i => .lst ((List.range c).map fun j => .int (g i j))) h i (List.mem_range.mpr hi)
  have h2 := eqv_map (l := List.range c) (f := fun j => .int (f i j)) (g := fun j => .int (g i j)) h1 l (List.mem_range.mpr hl)
  simpa [pd, PyData.eqv] using h2

/-- the rest of the law, where the two are unlike -/
theorem rest_bad {high wide : Nat} (hne : high ≠ wide) (hh : ρ "high" = some (.int (high : Int))) (hw : ρ "wide" = some (.int (wide : Int))) (hl : ρ "least" = some (.str "shape")) (ho : ρ "whole" = some (.str "shape")) :
    Exs h₀ prog w n (lawEnv P L fa cd) ρ emp ((lawBody P).drop 5) fun fl _ _ => fl = .ret (.bool true) := by
  refine Exs_cons (Ex_if (Ts_cmp ?_ (by kernel_rfl)))
  refine Ev_name (by kernel_rfl) hh (Ev_name (by kernel_rfl) hw (op_ne ⟨_, rfl, fun _ => ?_, fun e => ?_⟩))
  · refine Exs_cons (Ex_ret (Ev_and2 (Ev_cmp ?_ (by kernel_rfl))))
    refine Ev_name (by kernel_rfl) hl (Ev_str (op_eqS ⟨true, rfl, fun q => (nomatch q), fun _ => Ev_cmp ?_ (by kernel_rfl)⟩))
    exact Ev_name (by kernel_rfl) ho (Ev_str (op_eqS rfl))
  · simp at e; omega

abbrev sScopeO : Scope := { kind := .function, names := [(".0", .local), ("line", .cell), ("range", .globalImplicit), ("grid", .free), ("high", .free)], isGenerator := false, isCoroutine := false }

/-- the rest of the law, where the two are alike -/
theorem rest_ok (G : Gd mg mb (KK P) h₀) (ht : prog.given.tree = none) {c k J Kp : Nat} {g : Nat → Nat → Int} {p : Nat → Rat} {l : List V} (hc0 : 0 < c) (hc : c ≤ 3) (hk1 : 1 ≤ k) (hkc : k ≤ c) (hp1 : p k = 1) (hll : l.length = c + 1)
    (hf : AllBd J c c fun i l => (g i l : Rat)) (hp : ∀ l, l < k + 1 → Bd Kp (p l)) (hbd : hb J Kp (k + 1) ≤ 2 ^ 24)
    (hz : ∀ i, i < c → ∀ l, l < c → horn c (fun i l => (g i l : Rat)) p (k + 1) (k + 1) i l = 0)
    (hsc : (k = 1) ↔ ∀ i, i < c → ∀ l, l < c → g i l = if l = i then g 0 0 else 0)
    (hh : ρ "high" = some (.int (c : Int))) (hw : ρ "wide" = some (.int (c : Int))) (hgr : ρ "grid" = some (gridF c c g)) (ha : ρ "a" = some (matF c c fun i l => (g i l : Rat))) (hl : ρ "least" = some (rowF (k + 1) p)) (ho : ρ "whole" = some (.lst l)) :
    Exs h₀ prog w (n + 6) (lawEnv P L fa cd) ρ emp ((lawBody P).drop 5) fun fl _ _ => fl = .ret (.bool true) := by
  refine Exs_cons (Ex_if (Ts_cmp ?_ (by kernel_rfl)))
  refine Ev_name (by kernel_rfl) hh (Ev_name (by kernel_rfl) hw (op_ne ⟨_, rfl, fun e => ?_, fun _ => ?_⟩))
  · simp at e
  refine Exs_nil (Exs_cons (Ex_if (Ts_bool (Or_cons (Ts_cmp ?_ (by kernel_rfl))))))
  have esn : rowL (k + 1) p = rowL k p ++ [ratV (p k)] := by unfold rowL; rw [List.range_succ, List.map_append]; rfl
  refine Ev_last (Ev_name (by kernel_rfl) hl (Ev_un (Ev_int (op_neg ⟨rowL k p, ratV (p k), rfl, congrArg some esn, ?_⟩)))) (by with_unfolding_all (intros; rfl))
  refine Ev_tuple (Evs_cons (Ev_int (Evs_cons (Ev_int (Evs_nil ⟨by simp, ?_⟩)) (by kernel_rfl))) (by kernel_rfl))
  have e11 : V.tup [.int 1, .int 1] = ratV 1 := ratV_int 1
  rw [e11]
  refine op_neRat ⟨_, rfl, fun e => ?_, fun _ => ?_⟩
  · simp [hp1] at e
  refine Or_cons (Ts_not (Ts_chain ?_ (by with_unfolding_all rfl)))
  refine Ev_int ?_
  refine Ev_len G (by kernel_rfl) ?_ (by kernel_rfl) (by kernel_rfl)
  refine Ev_name (by kernel_rfl) hl ⟨rowL (k + 1) p, rfl, by rw [rowL_len]; omega, ?_⟩
  rw [rowL_len]
  refine op_le ⟨_, rfl, rfl, fun e => ?_, fun _ => ?_⟩
  · simp at e; omega
  refine Ev_bin (Ev_name (by kernel_rfl) hh (Ev_int (op_add ?_)))
  refine op_le ⟨_, rfl, fun e => ?_, fun _ => ?_⟩
  · simp at e; omega
  refine Or_cons (Ts_cmp ?_ (by kernel_rfl))
  refine Ev_len G (by kernel_rfl) ?_ (by kernel_rfl) (by kernel_rfl)
  refine Ev_name (by kernel_rfl) ho ⟨l, rfl, by omega, ?_⟩
  refine Ev_bin (Ev_name (by kernel_rfl) hh (Ev_int (op_add (op_ne ⟨_, rfl, fun e => ?_, fun _ => ?_⟩))))
  · simp at e; omega
  refine Or_nil ⟨fun q => (nomatch q), fun _ => Exs_nil ?_⟩
  refine Exs_cons (Ex_if (Ts_cmp ?_ (by kernel_rfl)))
  refine Ev_def G (ok_poly_of_matrix P) (by kernel_rfl) ?_ (by kernel_rfl) (by kernel_rfl) (by kernel_rfl)
  refine Evs_cons (Ev_name (by kernel_rfl) hl ?_) (by kernel_rfl)
  refine Evs_cons (Ev_name (by kernel_rfl) ha ?_) (by kernel_rfl)
  refine Evs_nil (fn_poly G ht hc0 hc hf hp (by omega) hbd ?_)
  refine Ev_def G (ok_from_whole P) (by kernel_rfl) ?_ (by kernel_rfl) (by kernel_rfl) (by kernel_rfl)
  refine Evs_cons ?_ (by kernel_rfl)
  refine Ev_comp (own := []) (ScopeOk.of (by kernel_rfl)) ?_
  refine It_range1 G (by kernel_rfl) (by kernel_rfl) (G.name (no_range P)) Boot.«range» ?_ (by decide) (by kernel_rfl) (by kernel_rfl) (by kernel_rfl)
  refine Ev_name (by kernel_rfl) hh ⟨c, rfl, by omega, by rw [rangeV_length]; omega, ?_⟩
  refine ⟨(List.range c).map fun _ => .lst ((List.range c).map fun _ => .int 0), by simp [rangeV_length], ?_, ?_⟩
  · rintro C cells i x y hx hy
    obtain ⟨hi, rfl⟩ := rangeV_get hx
    obtain ⟨_, rfl⟩ := range_get' hy
    refine ⟨_, Asg.name (notFree (by kernel_rfl)) (by kernel_rfl), upd_sub (by kernel_rfl), fun μD _ => ?_⟩
    refine Ev_bin ?_
    refine Ev.freeze (l := [.int 0]) (Ev_listM ?_) ?_
    · exact Evs_cons (Ev_int (Evs_nil ⟨by simp, fun a ha => ⟨a, ha, rfl, rfl⟩⟩)) (by kernel_rfl)
    refine Ev_name (by kernel_rfl) hh (op_mulL (by omega) ⟨?_, rfl⟩)
    congr 1
    rw [List.map_const', List.length_range]
  refine Evs_nil (Fn.up (fn_from_whole (n := n) (r := c) (c := c) (g := fun _ _ => 0) G (by omega) (by omega) ?_) (by omega))
  have ez : matF c c (horn c (fun i l => (g i l : Rat)) p (k + 1) (k + 1)) = matF c c fun i l => ((((fun _ _ => 0 : Nat → Nat → Int) i l : Int)) : Rat) := matF_congr fun i hi l hl => by rw [hz i hi l hl]; simp
  rw [ez]
  refine op_ned isD_matF isD_matF depth_matF depth_matF ⟨_, rfl, fun e => ?_, fun _ => ?_⟩
  · rw [PySem.SeqAt.eqv_refl _ (canLay_pd _ isD_matF)] at e; cases e
  refine Exs_nil (Exs_cons (Ex_assign_comp (x := "scalar") (own := ["line"]) (ScopeOk.of (by kernel_rfl)) (by kernel_rfl) (by kernel_rfl) ?_ (by intro _; rfl)))
  refine It_range1 G (by kernel_rfl) (by kernel_rfl) (G.name (no_range P)) Boot.«range» ?_ (by decide) (by kernel_rfl) (by kernel_rfl) (by kernel_rfl)
  refine Ev_name (by kernel_rfl) hh ⟨c, rfl, by omega, by rw [rangeV_length]; omega, ?_⟩
  refine ⟨fun k res μ' => res = (List.range k).map (fun i => V.lst (rowV c fun l => if l = i then g 0 0 else 0)) ∧ μ' = emp ∧ k ≤ c, ⟨rfl, rfl, Nat.zero_le _⟩, ?_, ?_, ?_⟩
  · rintro k res μ' ⟨rfl, rfl, _⟩
    exact ⟨by simp, rfl⟩
  · rintro C cells D i x res μ' hx ⟨rfl, rfl, _⟩ hD
    obtain ⟨hi, rfl⟩ := rangeV_get hx
    refine ⟨_, Asg.name (notFree (by kernel_rfl)) (by kernel_rfl), upd_sub (by kernel_rfl), TsF_nil ⟨emp, rfl, hD, fun q => (nomatch q), fun _ => ?_⟩⟩
    refine Ev_comp (own := []) (ScopeOk.of (by kernel_rfl)) ?_
    refine It_range1 G (by kernel_rfl) (by kernel_rfl) (G.name (no_range P)) Boot.«range» ?_ (by decide) (by kernel_rfl) (by kernel_rfl) (by kernel_rfl)
    refine Ev_name (by kernel_rfl) hh ⟨c, rfl, by omega, by rw [rangeV_length]; omega, ?_⟩
    refine ⟨rowV c fun l => if l = i then g 0 0 else 0, by simp [rowV, rangeV_length], ?_, emp, rfl, hD, ?_, rfl, hi⟩
    · rintro C cells l' x y hx hy
      obtain ⟨hl', rfl⟩ := rangeV_get hx
      obtain ⟨_, rfl⟩ := range_get' hy
      refine ⟨_, Asg.name (notFree (by kernel_rfl)) (by kernel_rfl), upd_sub (by kernel_rfl), fun μE _ => ?_⟩
      refine Ev_if (Ts_cmp ?_ (by kernel_rfl))
      refine Ev_name (by kernel_rfl) rfl (Ev_name (by kernel_rfl) rfl (op_eq ⟨_, rfl, fun e => ?_, fun e => ?_⟩))
      · have : l' = i := by
          have : (0 : Int) + l' = 0 + i := by simpa using e
          omega
        refine Ev_idx0 (Ev_idx0 (Ev_name (by kernel_rfl) hgr ⟨_, .lst ((List.range c).map fun j => .int (g 0 j)), rfl, range_get hc0, _, .int (g 0 0), rfl, range_get hc0, ?_, rfl⟩))
        simp only [this, if_true]
      · have : l' ≠ i := by
          have : (0 : Int) + l' ≠ 0 + i := by simpa using e
          omega
        exact Ev_int ⟨by simp [this], rfl⟩
    · rw [List.range_succ, List.map_append]; rfl
  · rintro res μ' ⟨rfl, rfl, _⟩
    rw [rangeV_length] at *
    have eg : V.lst ((List.range c).map fun i => V.lst (rowV c fun l => if l = i then g 0 0 else 0)) = gridF c c fun i l => if l = i then g 0 0 else 0 := rfl
    rw [eg]
    refine Exs_cons (Ex_ret (Ev_cmp (Ev_cmp ?_ (by kernel_rfl)) (by kernel_rfl)))
    refine Ev_len G (by kernel_rfl) ?_ (by kernel_rfl) (by kernel_rfl)
    refine Ev_name (by kernel_rfl) hl ⟨rowL (k + 1) p, rfl, by rw [rowL_len]; omega, ?_⟩
    rw [rowL_len]
    refine Ev_int (op_eq (Ev_cmp ?_ (by kernel_rfl)))
    refine Ev_name (by kernel_rfl) hgr (Ev_name (by kernel_rfl) rfl (op_eqd isD_gridF isD_gridF depth_gridF depth_gridF ?_))
    have hb : PyData.eqv (pd (gridF c c g)) (pd (gridF c c fun i l => if l = i then g 0 0 else 0)) = decide (k = 1) := by
      by_cases h1 : k = 1
      · rw [gridF_congr (g := fun i l => if l = i then g 0 0 else 0) fun i hi l hl => hsc.mp h1 i hi l hl, PySem.SeqAt.eqv_refl _ (canLay_pd _ isD_gridF)]; simp [h1]
      · rw [Bool.eq_iff_iff]
        exact ⟨fun h => absurd (hsc.mpr fun i hi l hl => eqv_gridF h i hi l hl) h1, fun h => absurd (by simpa using h) h1⟩
    rw [hb]
    refine op_eqd rfl rfl (by simp [pd, PyData.depth]) (by simp [pd, PyData.depth]) ?_
    have hb2 : (((k + 1 : Nat) : Int) == 2) = decide (k = 1) := by rw [Bool.eq_iff_iff]; simp; omega
    rw [hb2]
    have hb3 : PyData.eqv (pd (.bool (decide (k = 1)))) (pd (.bool (decide (k = 1)))) = true := PySem.SeqAt.eqv_refl _ (canLay_pd _ rfl)
    rw [hb3]
end

end Mine
end

section
open PySem PySem.Calls PyProof.Rows PySem.W
set_option maxRecDepth 100000
namespace Mine

/-- the relation that dependence hands out -/
def pK (c : Nat) (f : Nat → Nat → Rat) (k : Nat) : Nat → Rat := depK (echT c f (k + 1)).g k (echT c f (k + 1)).piv (echT c f (k + 1)).piv.length

/-- the plain law, as the walk needs it -/
structure PlainOk (c : Nat) (g : Nat → Nat → Int) : Prop where
  ex : ∃ k, k ≤ c ∧ k ∉ (echT c (fun i l => (g i l : Rat)) (k + 1)).piv
  all : ∀ k, k ≤ c → (∀ j, j < k → j ∈ (echT c (fun i l => (g i l : Rat)) (j + 1)).piv) → k ∉ (echT c (fun i l => (g i l : Rat)) (k + 1)).piv →
    1 ≤ k ∧ pK c (fun i l => (g i l : Rat)) k k = 1 ∧ (∀ l, l < k + 1 → Bd (2 ^ 17) (pK c (fun i l => (g i l : Rat)) k l)) ∧
    (∀ i, i < c → ∀ l, l < c → horn c (fun i l => (g i l : Rat)) (pK c (fun i l => (g i l : Rat)) k) (k + 1) (k + 1) i l = 0) ∧
    ((k = 1) ↔ ∀ i, i < c → ∀ l, l < c → g i l = if l = i then g 0 0 else 0)

section
variable {mg mb : Str → Option Value} {h₀ : Heap} {prog : Program} {w : World} {n : Nat} {P : Params} {A : Around} {s : Shared} {ρ : Str → Option V} {env : Env} {L fa : Addr} {μ μ₀ : Mu} {s₀ : Shared}

theorem grid_bd {c : Nat} {g : Nat → Nat → Int} (hg : ∀ i l, i < c → l < c → (g i l).natAbs ≤ 2) : AllBd 2 c c fun i l => (g i l : Rat) := fun i hi l hl => .ofInt (by have := hg i l hi hl; omega) (by omega)

theorem law_main (G : Gd mg mb (KK P) h₀) (ht : prog.given.tree = none) (C : CodeHd h₀ 218 216) (hBA : ∀ h : Heap, Ext h₀ h → h.BuiltinsAt mg 216) (hn : h₀.get? 216 = none) (plain : ∀ c g, 0 < c → c ≤ 3 → (∀ i l, i < c → l < c → (g i l).natAbs ≤ 2) → PlainOk c g)
    {sc : List Int} (hsc : sc.length ≤ 63) (rm : Room 9 A) (hfr : A.frames = some [lawEnv P L fa (.ref 218)]) (F : FS AllB h₀ s₀ μ₀ (lawEnv P L fa (.ref 218)) ρ emp s) (hs : ρ "script" = some (.lst (intsV sc)))
    (ht6 : s.heap.get? 216 = some (tabObj #[])) {E : Value → Shared → Prop} {Q : Flow → Shared → Prop} (hQ : ∀ s', (∃ h tk, s' = { s with heap := h, toks := tk }) → Ext h₀ s'.heap → (∃ c1 c2, s'.heap.get? 216 = some (tabObj ((#[] ++ #[rawInt 141, rawInt 0, .ref c1]) ++ #[rawInt 142, rawInt 0, .ref c2]))) → Q (.ret (.bool true)) s') : wpAny (model prog w) A (execs (lawBody P) (lawEnv P L fa (.ref 218))) Q E s := by
  have split : lawBody P = (lawBody P).take 4 ++ (lawBody P).drop 4 := (List.take_append_drop 4 _).symm
  rw [split]
  refine Wp_app ?_
  have hd := law_head (n := 5) (L := L) (fa := fa) (cd := .ref 218) (prog := prog) (w := w) (R := []) (Φ := fun fl ρ' μ' => fl = .next ∧ Pre (sc.take 14) ρ' μ') G ht hsc hs fun ρ' μ' p => Exs_nil ⟨rfl, p⟩
  rw [List.append_nil] at hd
  refine hd A s₀ μ₀ s E _ rm F fun fl f s' ρ' μ' p F' m q => ?_
  obtain ⟨rfl, pre⟩ := p
  obtain rfl : f = .next := q
  obtain ⟨high, wide, g, b, i, hh1, hh3, hw1, hw3, hg, rfl, vh, vw, vg, va⟩ := pre.all
  have ht6' : s'.heap.get? 216 = some (tabObj #[]) := m.keep 216 _ ⟨fun _ _ q => (by cases q), fun _ q => (by cases q)⟩ not_emp ht6
  by_cases hne : high = wide
  · subst hne
    have pl := plain high g (by omega) hh3 hg
    refine law_S (n := 8) (va := matF high high fun i l => (g i l : Rat)) (Φ₁ := fun v => ∃ k, k ≤ high ∧ (∀ j, j < k → j ∈ (echT high (fun i l => (g i l : Rat)) (j + 1)).piv) ∧ k ∉ (echT high (fun i l => (g i l : Rat)) (k + 1)).piv ∧ v = rowF (k + 1) (pK high (fun i l => (g i l : Rat)) k)) (Φ₂ := fun v => ∃ l : List V, l.length = high + 1 ∧ v = .lst l) G C hBA hn ?_ ?_ rm hfr F' va ht6' ?_
    · intro h₂ f p0 p1 p2 G₂ O
      have hB : ebd (pwb 2 high) (high + 1) ≤ 2 ^ 24 := by
        have e1 : pwb 2 high ≤ pwb 2 3 := pwb_mono hh3
        have e2 := ebd_le e1 (high + 1)
        have e3 : ebd (pwb 2 3) (high + 1) ≤ ebd (pwb 2 3) 4 := ebd_mono (by omega)
        have e4 : ebd (pwb 2 3) 4 ≤ 2 ^ 24 := by decide
        omega
      refine .inl (lam_min (n := 7) G₂ O (fn_minpoly (n := 0) G₂ ht (by omega) hh3 (grid_bd hg) hB pl.ex fun k hk hj hnk => ⟨rfl, k, hk, hj, hnk, rfl⟩))
    · intro h₂ f p0 p1 p2 G₂ O
      have hB : cb 2 high ≤ 2 ^ 24 := by
        have e1 : cb 2 high ≤ cb 2 3 := cb_mono hh3
        have e4 : cb 2 3 ≤ 2 ^ 24 := by decide
        omega
      refine .inl (lam_char (n := 7) G₂ O (Fn.up (fn_charpoly (n := 0) G₂ ht (by omega) hh3 (grid_bd hg) hB fun l hl => ⟨rfl, l, hl, rfl⟩) (by omega)))
    · rintro s₁ v1 v2 ⟨k, hk, hj, hnk, rfl⟩ ⟨l, hl, rfl⟩ F₁ sm ⟨c1, c2, tb⟩
      obtain ⟨k1, hp1, hpb, hz, hiff⟩ := pl.all k hk hj hnk
      have hB : hb 2 (2 ^ 17) (k + 1) ≤ 2 ^ 24 := by
        have e1 : hb 2 (2 ^ 17) (k + 1) ≤ hb 2 (2 ^ 17) 4 := hb_mono (by omega)
        have e4 : hb 2 (2 ^ 17) 4 ≤ 2 ^ 24 := by decide
        omega
      refine rest_ok (n := 3) (J := 2) (Kp := 2 ^ 17) G ht (by omega) hh3 k1 hk hp1 hl (grid_bd hg) hpb hB hz hiff (ρ := upd (upd ρ' "whole" (.lst l)) "least" (rowF (k + 1) (pK high (fun i l => (g i l : Rat)) k))) vh vw vg va rfl rfl A _ _ s₁ E Q rm F₁ fun fl f s'' ρ'' μ'' p F'' m'' q => ?_
      subst p
      obtain ⟨r, rfl, q⟩ := q
      obtain rfl : r = .bool true := q
      refine hQ s'' ?_ F''.ext ⟨c1, c2, m''.keep 216 _ ⟨fun _ _ q => (by cases q), fun _ q => (by cases q)⟩ not_emp tb⟩
      obtain ⟨_, _, e1⟩ := F'.res.same
      obtain ⟨_, _, e2⟩ := F.res.same
      obtain ⟨_, _, e3⟩ := sm
      obtain ⟨_, _, e4⟩ := F''.res.same
      exact ⟨s''.heap, s''.toks, by rw [e4, e3, e1, e2]⟩
  · refine law_S (n := 8) (va := matF high wide fun i l => (g i l : Rat)) (Φ₁ := fun v => v = .str "shape") (Φ₂ := fun v => v = .str "shape") G C hBA hn ?_ ?_ rm hfr F' va ht6' ?_
    · intro h₂ f p0 p1 p2 G₂ O
      exact .inr ⟨lamx_min (n := 7) G₂ O ((fnx_minpoly (n := 0) G₂ hne (by omega) (by omega) (by omega)).up (by omega)), rfl⟩
    · intro h₂ f p0 p1 p2 G₂ O
      exact .inr ⟨lamx_char (n := 7) G₂ O ((fnx_charpoly (n := 0) G₂ hne (by omega) (by omega) (by omega)).up (by omega)), rfl⟩
    · rintro s₁ v1 v2 rfl rfl F₁ sm ⟨c1, c2, tb⟩
      refine rest_bad (n := 9) (ρ := upd (upd ρ' "whole" (.str "shape")) "least" (.str "shape")) hne vh vw rfl rfl A _ _ s₁ E Q rm F₁ fun fl f s'' ρ'' μ'' p F'' m'' q => ?_
      subst p
      obtain ⟨r, rfl, q⟩ := q
      obtain rfl : r = .bool true := q
      refine hQ s'' ?_ F''.ext ⟨c1, c2, m''.keep 216 _ ⟨fun _ _ q => (by cases q), fun _ q => (by cases q)⟩ not_emp tb⟩
      obtain ⟨_, _, e1⟩ := F'.res.same
      obtain ⟨_, _, e2⟩ := F.res.same
      obtain ⟨_, _, e3⟩ := sm
      obtain ⟨_, _, e4⟩ := F''.res.same
      exact ⟨s''.heap, s''.toks, by rw [e4, e3, e1, e2]⟩
end

end Mine
end

section
open PySem PySem.Calls PyProof.Rows PySem.W
set_option maxRecDepth 100000
namespace Mine

def lawCells (L : Addr) : List (Str × Addr) := [("a", L + 1 + 1 + 1 + 1 + 1), ("grid", L + 1 + 1 + 1 + 1), ("wide", L + 1 + 1 + 1), ("high", L + 1 + 1), ("box", L + 1)]
theorem lawCells_eq (P : Params) (L : Addr) : cellsFrom (L + 1) (fdAt (KK P) 219).scope.names [] = lawCells L := by kernel_rfl
theorem lawCells_of {L : Addr} {x : Str} {c : Addr} (h : (lawCells L).lookup x = some c) : (x = "a" ∧ c = L + 5) ∨ (x = "grid" ∧ c = L + 4) ∨ (x = "wide" ∧ c = L + 3) ∨ (x = "high" ∧ c = L + 2) ∨ (x = "box" ∧ c = L + 1) := by
  have := lookup_mem h
  simp only [lawCells, List.mem_cons, List.not_mem_nil, or_false, Prod.mk.injEq] at this
  exact this
theorem lawScope_cells (P : Params) : ((fdAt (KK P) 219).scope.names.all fun p => p.2 != .cell || ((lawCells 0).lookup p.1).isSome) = true := by kernel_rfl
theorem lawScope_script (P : Params) : (fdAt (KK P) 219).scope.names.lookup (Str.ofString "script") = some .local := by kernel_rfl

theorem reps_ints {X : Addr → Prop} {h h' : Heap} {P : Params} : ∀ {sc : List Int} {vs : List Value}, WellAll P h vs (ofPys (sc.map PyData.int)) → Reps X h' (intsV sc) vs := by
  intro sc
  induction sc with
  | nil =>
    intro vs q
    have q' : WellAll P h vs [] := q
    cases q'; rfl
  | cons i sc ih =>
    intro vs q
    have q' : WellAll P h vs (.int i :: ofPys (sc.map PyData.int)) := q
    cases q' with
    | cons q1 q2 =>
      cases q1
      exact ⟨_, _, rfl, ⟨_, rfl⟩, ih q2⟩

theorem well_list {P : Params} {h : Heap} {v : Addr} {sc : List Int} (q : Well P h (.ref v) (ofPy (PyData.list (sc.map PyData.int)))) : ∃ vs : List Value, h.get? v = some (lstObj vs.toArray 0) ∧ WellAll P h vs (ofPys (sc.map PyData.int)) := by
  have q' : Well P h (.ref v) (.list (ofPys (sc.map PyData.int))) := q
  cases q' with
  | list g a => exact ⟨_, g, a⟩

section
variable {mg mb : Str → Option Value} {h₀ : Heap} {prog : Program} {w : World} {P : Params} {s : Shared} {L fa : Addr}

theorem law_final (G : Gd mg mb (KK P) h₀) (ht : prog.given.tree = none) (C : CodeHd h₀ 218 216) (hBA : ∀ h : Heap, Ext h₀ h → h.BuiltinsAt mg 216) (plain : ∀ c g, 0 < c → c ≤ 3 → (∀ i l, i < c → l < c → (g i l).natAbs ≤ 2) → PlainOk c g)
    {m : Str → Option Value} (F : Fr h₀ L s.heap m) {l : Addr} (hm : m "script" = some (.ref l)) {sc : List Int} (hsc : sc.length ≤ 63) {vs : List Value} (hl : s.heap.get? l = some (lstObj vs.toArray 0)) (hvs : Reps (fun _ => False) s.heap (intsV sc) vs)
    {news : List (Addr × Obj)} (N : News h₀ L s.heap news) (n6 : (216, tabObj #[]) ∈ news) (hc : ∀ i : Nat, 1 ≤ i → i ≤ 5 → ∃ o v, (L + i, o) ∈ news ∧ o.data = .cell v) {E : Value → Shared → Prop} {Q : Flow → Shared → Prop} (hQ : ∀ s', (∃ h tk, s' = { s with heap := h, toks := tk }) → Ext h₀ s'.heap → (∃ c1 c2, s'.heap.get? 216 = some (tabObj ((#[] ++ #[rawInt 141, rawInt 0, .ref c1]) ++ #[rawInt 142, rawInt 0, .ref c2]))) → Q (.ret (.bool true)) s') :
    wpAny (model prog w) (callerA.deeper (lawEnv P L fa (.ref 218))) (execs (lawBody P) (lawEnv P L fa (.ref 218))) Q E s := by
  have fresh : ∀ b, L ≤ b → h₀.get? b = none := fun b hb => Heap.get?_none_of_le (Nat.le_trans F.above hb)
  have e6 := N _ n6
  have cellAt : ∀ x c, (lawEnv P L fa (.ref 218)).cells.lookup x = some c → ∃ i : Nat, 1 ≤ i ∧ i ≤ 5 ∧ c = L + i := fun x c e => by
    have e' : (lawCells L).lookup x = some c := by rw [← lawCells_eq P L]; exact e
    rcases lawCells_of e' with ⟨_, e⟩ | ⟨_, e⟩ | ⟨_, e⟩ | ⟨_, e⟩ | ⟨_, e⟩
    · exact ⟨5, by decide, by decide, e⟩
    · exact ⟨4, by decide, by decide, e⟩
    · exact ⟨3, by decide, by decide, e⟩
    · exact ⟨2, by decide, by decide, e⟩
    · exact ⟨1, by decide, by decide, e⟩
  have hrep : Rep (dom emp) s.heap (.lst (intsV sc)) (.ref l) := ⟨l, vs.toArray, 0, rfl, not_emp, hl, by simpa using Reps.mono (X := fun _ => False) (X' := dom emp) (fun b o _ _ g => ⟨not_emp, g⟩) _ _ hvs⟩
  have hk : (lawEnv P L fa (.ref 218)).scope.kind = .function := by kernel_rfl
  have fs : FS AllB h₀ { s with heap := h₀ } emp (lawEnv P L fa (.ref 218)) (fun y => if y = "script" then some (.lst (intsV sc)) else none) emp s := by
    refine ⟨⟨hk, rfl, rfl, ⟨m, F.ns, fun x v kx e => ?_⟩, fun x v kx e => ?_, fun x kx => ?_, fun x y c ex ey => ?_⟩, ⟨⟨_, _, rfl⟩, fun b o _ g => F.keep b o g, muOk_emp, fun _ d => absurd d not_emp, fun _ d _ => absurd d not_emp⟩, fun _ _ g => g, fun _ d => absurd d not_emp, fresh L (Nat.le_refl _), fun x c _ _ e => ?_⟩
    · split at e
      · rename_i hx; subst hx; cases e
        exact ⟨_, hm, hrep⟩
      · cases e
    · split at e
      · rename_i hx; subst hx
        have : (lawEnv P L fa (.ref 218)).kindOf "script" = some .local := lawScope_script P
        rw [this] at kx; rcases kx with q | q <;> cases q
      · cases e
    · have kx' : (fdAt (KK P) 219).scope.names.lookup x = some .cell := kx
      obtain ⟨c, e⟩ := Option.isSome_iff_exists.mp (cellsFrom_some (x := x) (fdAt (KK P) 219).scope.names (L + 1) [] (.inl kx'))
      obtain ⟨i, h1, h2, rfl⟩ := cellAt x c e
      obtain ⟨o, v, hmem, hd⟩ := hc i h1 h2
      exact ⟨L + i, v, e, o, (N _ hmem).1, hd⟩
    · have ex' : (lawCells L).lookup x = some c := by rw [← lawCells_eq P L]; exact ex
      have ey' : (lawCells L).lookup y = some c := by rw [← lawCells_eq P L]; exact ey
      rcases lawCells_of ex' with ⟨e1, e2⟩ | ⟨e1, e2⟩ | ⟨e1, e2⟩ | ⟨e1, e2⟩ | ⟨e1, e2⟩ <;> rcases lawCells_of ey' with ⟨e3, e4⟩ | ⟨e3, e4⟩ | ⟨e3, e4⟩ | ⟨e3, e4⟩ | ⟨e3, e4⟩ <;> first | exact e1.trans e3.symm | exact absurd (Nat.add_left_cancel (e2.symm.trans e4)) (by decide)
    · obtain ⟨i, h1, _, rfl⟩ := cellAt x c e
      exact fresh _ (Nat.le_add_right L i)
  have rm : Room 9 (callerA.deeper (lawEnv P L fa (.ref 218))) := by
    refine ⟨rfl, ?_, ?_, _, _, rfl, ?_⟩
    · show callerA.depth + 1 + 9 + 200 < recursionLimit
      decide
    · show callerA.units + 3 + 10 * 9 + 200 < cLine
      decide
    · exact ⟨by kernel_rfl, by kernel_rfl, rfl, rfl⟩
  exact law_main G ht C hBA e6.2.2 plain hsc rm rfl fs (by simp) e6.1 hQ
end

end Mine
end

section
open PySem PySem.Calls PyProof.Rows PySem.W
namespace Mine

theorem sumTo_congr {f g : Nat → Rat} : ∀ {n : Nat}, (∀ k, k < n → f k = g k) → sumTo n f = sumTo n g
  | 0, _ => rfl
  | n + 1, h => by
    show sumTo n f + f n = sumTo n g + g n
    rw [sumTo_congr fun k hk => h k (by omega), h n (by omega)]
theorem sumTo_zero : ∀ {n : Nat}, sumTo n (fun _ => 0) = 0
  | 0 => rfl
  | n + 1 => by show sumTo n (fun _ => 0) + 0 = 0; rw [sumTo_zero]; grind
theorem sumTo_add {f g : Nat → Rat} : ∀ {n : Nat}, sumTo n (fun k => f k + g k) = sumTo n f + sumTo n g
  | 0 => by show (0 : Rat) = 0 + 0; grind
  | n + 1 => by
    show sumTo n (fun k => f k + g k) + (f n + g n) = (sumTo n f + f n) + (sumTo n g + g n)
    rw [sumTo_add]; grind
theorem sumTo_mul {f : Nat → Rat} {a : Rat} : ∀ {n : Nat}, sumTo n (fun k => a * f k) = a * sumTo n f
  | 0 => by show (0 : Rat) = a * 0; grind
  | n + 1 => by
    show sumTo n (fun k => a * f k) + a * f n = a * (sumTo n f + f n)
    rw [sumTo_mul]; grind
theorem sumTo_shift {f : Nat → Rat} : ∀ {n : Nat}, sumTo (n + 1) f = f 0 + sumTo n fun k => f (k + 1)
  | 0 => by show (0 : Rat) + f 0 = f 0 + 0; grind
  | n + 1 => by
    show sumTo (n + 1) f + f (n + 1) = f 0 + (sumTo n (fun k => f (k + 1)) + f (n + 1))
    rw [sumTo_shift (n := n)]; grind
theorem sumTo_unit {v : Nat → Rat} {i : Nat} : ∀ {n : Nat}, sumTo n (fun l => (if i = l then 1 else 0) * v l) = if i < n then v i else 0
  | 0 => rfl
  | n + 1 => by
    show sumTo n (fun l => (if i = l then 1 else 0) * v l) + (if i = n then 1 else 0) * v n = _
    rw [sumTo_unit]
    by_cases h1 : i < n
    · rw [if_pos h1, if_neg (by omega), if_pos (by omega)]; grind
    · by_cases h2 : i = n
      · subst h2; rw [if_neg h1, if_pos rfl, if_pos (by omega)]; grind
      · rw [if_neg h1, if_neg h2, if_neg (by omega)]; grind

/-- v is null for the rows below r, on the first m columns -/
def Nul (r m : Nat) (g : Nat → Nat → Rat) (v : Nat → Rat) : Prop := ∀ i, i < r → sumTo m (fun l => g i l * v l) = 0

theorem nul_swap {r m i j : Nat} {g : Nat → Nat → Rat} {v : Nat → Rat} (hi : i < r) (hj : j < r) : Nul r m (swapR g i j) v ↔ Nul r m g v := by
  have e1 : swapR g i j i = g j := by
    unfold swapR; by_cases h : i = j
    · subst h; simp
    · simp [h]
  have e2 : swapR g i j j = g i := by unfold swapR; simp
  have e3 : ∀ k, k ≠ i → k ≠ j → swapR g i j k = g k := fun k h1 h2 => by unfold swapR; simp [h1, h2]
  constructor
  · intro h k hk
    by_cases h1 : k = i
    · subst h1; have := h j hj; rwa [e2] at this
    · by_cases h2 : k = j
      · subst h2; have := h i hi; rwa [e1] at this
      · have := h k hk; rwa [e3 k h1 h2] at this
  · intro h k hk
    by_cases h1 : k = i
    · subst h1; rw [e1]; exact h j hj
    · by_cases h2 : k = j
      · subst h2; rw [e2]; exact h i hi
      · rw [e3 k h1 h2]; exact h k hk

theorem nul_div {r m row col : Nat} {g : Nat → Nat → Rat} {v : Nat → Rat} (h0 : g row col ≠ 0) : Nul r m (divR g row col) v ↔ Nul r m g v := by
  have e : sumTo m (fun l => divR g row col row l * v l) = (1 / g row col) * sumTo m (fun l => g row l * v l) := by
    rw [← sumTo_mul, divR_row]
    exact sumTo_congr fun k _ => by grind
  constructor
  · intro h k hk
    by_cases h1 : k = row
    · subst h1
      have := h k hk
      rw [e] at this
      grind
    · have := h k hk; rwa [divR_other h1] at this
  · intro h k hk
    by_cases h1 : k = row
    · subst h1; rw [e, h k hk]; grind
    · rw [divR_other h1]; exact h k hk

theorem nul_clr {r m row col : Nat} {g : Nat → Nat → Rat} {v : Nat → Rat} (hr : row < r) : Nul r m (clrR g row col r) v ↔ Nul r m g v := by
  have e : ∀ k, k < r → k ≠ row → sumTo m (fun l => clrR g row col r k l * v l) = sumTo m (fun l => g k l * v l) + (- g k col) * sumTo m (fun l => g row l * v l) := fun k hk hne => by
    rw [← sumTo_mul, ← sumTo_add]
    refine sumTo_congr fun l _ => ?_
    unfold clrR
    rw [if_pos ⟨hk, hne⟩]
    grind
  constructor
  · intro h k hk
    have hrow : sumTo m (fun l => g row l * v l) = 0 := by have := h row hr; rwa [clrR_row] at this
    by_cases h1 : k = row
    · subst h1; exact hrow
    · have := h k hk
      rw [e k hk h1, hrow] at this
      grind
  · intro h k hk
    by_cases h1 : k = row
    · subst h1; rw [clrR_row]; exact h k hk
    · rw [e k hk h1, h k hk, h row hr]; grind

theorem swap_lead {r row i col : Nat} {g : Nat → Nat → Rat} (h : g i col ≠ 0) : swapR g row i row col ≠ 0 := by
  unfold swapR; split
  · rename_i e; rw [e]; exact h
  · rw [if_pos rfl]; exact h

theorem nul_step {r m col : Nat} {S : ES} {v : Nat → Rat} : Nul r m (echStep r S col).g v ↔ Nul r m S.g v := by
  unfold echStep
  split
  · exact Iff.rfl
  · rename_i i t e
    obtain ⟨m1, m2, m3⟩ := spots_mem (r := r) (row := S.piv.length) (col := col) (i := i) (g := S.g) (by rw [e]; exact List.mem_cons_self)
    exact (nul_clr (by omega)).trans ((nul_div (swap_lead (r := r) m3)).trans (nul_swap (by omega) m2))
theorem nul_ech {r m : Nat} {f : Nat → Nat → Rat} {v : Nat → Rat} : ∀ k, Nul r m (ech r f k).g v ↔ Nul r m f v
  | 0 => Iff.rfl
  | k + 1 => nul_step.trans (nul_ech k)

/-- all of the first k columns are pivots -/
theorem all_piv {r : Nat} {f : Nat → Nat → Rat} : ∀ k, (∀ j, j < k → j ∈ (ech r f (j + 1)).piv) → (ech r f k).piv = List.range k ∧ ∀ i, i < r → ∀ j, j < k → (ech r f k).g i j = if i = j then 1 else 0
  | 0, _ => ⟨rfl, fun _ _ _ h => (nomatch h)⟩
  | k + 1, h => by
    obtain ⟨hp, hu⟩ := all_piv k fun j hj => h j (by omega)
    have hk := h k (by omega)
    have hs : ech r f (k + 1) = echStep r (ech r f k) k := rfl
    rw [hs] at hk ⊢
    generalize ech r f k = S at hp hu hk ⊢
    obtain ⟨g, piv⟩ := S
    simp only at hp hu
    subst hp
    unfold echStep at hk ⊢
    simp only [List.length_range] at hk ⊢
    cases e : spots r k k g with
    | nil => rw [e] at hk; simp at hk
    | cons i t =>
      obtain ⟨m1, m2, m3⟩ := spots_mem (r := r) (row := k) (col := k) (i := i) (g := g) (by rw [e]; exact List.mem_cons_self)
      simp only
      refine ⟨List.range_succ.symm, fun i' hi' j hj => ?_⟩
      have hlead := swap_lead (r := r) (row := k) m3
      have us : ∀ x, x < r → ∀ y, y < k → swapR g k i x y = if x = y then 1 else 0 := fun x hx y hy => by
        unfold swapR
        by_cases h1 : x = i
        · subst h1; rw [if_pos rfl, hu k (by omega) y hy, if_neg (by omega), if_neg (by omega)]
        · rw [if_neg h1]
          by_cases h2 : x = k
          · subst h2; rw [if_pos rfl, hu i m2 y hy, if_neg (by omega), if_neg (by omega)]
          · rw [if_neg h2]; exact hu x hx y hy
      generalize swapR g k i = g1 at hlead us
      unfold clrR
      by_cases hik : i' = k
      · subst hik
        rw [if_neg (by omega), divR_row]
        simp only
        by_cases hjk : j = i'
        · subst hjk; rw [if_pos rfl]; grind
        · rw [us i' hi' j (by omega), if_neg (by omega)]; grind
      · rw [if_pos ⟨hi', hik⟩, divR_row, divR_other hik]
        simp only
        by_cases hjk : j = k
        · subst hjk; rw [if_neg hik]; grind
        · rw [us i' hi' j (by omega), us k (by omega) j (by omega), if_neg (by omega : ¬ k = j)]; grind

/-- where all are pivots, no null vector but with the last at zero -/
theorem no_nul {r k : Nat} {f : Nat → Nat → Rat} {v : Nat → Rat} (h : ∀ j, j < k + 1 → j ∈ (ech r f (j + 1)).piv) (hv : Nul r (k + 1) f v) : v k = 0 := by
  obtain ⟨hp, hu⟩ := all_piv (k + 1) h
  have hl := ech_len r f (k + 1)
  rw [hp, List.length_range] at hl
  have h1 := (nul_ech (k + 1)).mpr hv k (by omega)
  rw [sumTo_congr (g := fun l => (if k = l then 1 else 0) * v l) fun l hl' => by rw [hu k (by omega) l hl'], sumTo_unit, if_pos (by omega)] at h1
  exact h1

end Mine
end

section
open PySem PySem.Calls PyProof.Rows PySem.W
namespace Mine

theorem depK_at {g : Nat → Nat → Rat} {k : Nat} : ∀ j, j ≤ k → ∀ l, depK g k (List.range k) j l = if l < j then - g l k else if l = k then 1 else 0
  | 0, _, l => by show (if l = k then (1 : Rat) else 0) = _; simp
  | j + 1, hj, l => by
    show (if some l = (List.range k)[j]? then - g j k else depK g k (List.range k) j l) = _
    rw [List.getElem?_range (by omega), depK_at j (by omega) l]
    by_cases h : l = j
    · subst h; simp
    · rw [if_neg (by simpa using h)]
      by_cases h2 : l < j
      · rw [if_pos h2, if_pos (by omega : l < j + 1)]
      · rw [if_neg h2, if_neg (by omega : ¬ l < j + 1)]

/-- the first k columns are pivots, the next is none -/
theorem rel_null {r k : Nat} {f : Nat → Nat → Rat} (h : ∀ j, j < k → j ∈ (ech r f (j + 1)).piv) (hn : k ∉ (ech r f (k + 1)).piv) :
    (ech r f (k + 1)).piv = List.range k ∧ Nul r (k + 1) f (depK (ech r f (k + 1)).g k (List.range k) k) := by
  obtain ⟨hp, hu⟩ := all_piv k h
  have hs : ech r f (k + 1) = echStep r (ech r f k) k := rfl
  have he : ech r f (k + 1) = ech r f k ∧ ∀ i, k ≤ i → i < r → (ech r f k).g i k = 0 := by
    rw [hs] at hn ⊢
    have hl : (ech r f k).piv.length = k := by rw [hp, List.length_range]
    generalize ech r f k = S at hp hl hn ⊢
    unfold echStep at hn ⊢
    cases e : spots r S.piv.length k S.g with
    | nil => exact ⟨rfl, fun i h1 h2 => spots_nil e (by omega) h2⟩
    | cons i t => rw [e] at hn; simp at hn
  obtain ⟨e1, hz⟩ := he
  rw [e1]
  refine ⟨hp, (nul_ech k).mp fun i hi => ?_⟩
  have h1 : ∀ l, l < k + 1 → (ech r f k).g i l * depK (ech r f k).g k (List.range k) k l = (if i = l then 1 else 0) * (if l < k then - (ech r f k).g l k else 0) + (ech r f k).g i k * (if k = l then 1 else 0) := fun l hl => by
    rw [depK_at k (Nat.le_refl _)]
    by_cases h2 : l < k
    · simp only [if_pos h2, hu i hi l h2, if_neg (by omega : ¬ k = l)]; grind
    · have : l = k := by omega
      subst this
      simp only [if_neg h2, if_pos rfl]; grind
  rw [sumTo_congr h1, sumTo_add, sumTo_unit, sumTo_mul]
  have h2 : sumTo (k + 1) (fun l => if k = l then (1 : Rat) else 0) = 1 := by
    have := sumTo_unit (v := fun _ => 1) (i := k) (n := k + 1)
    rw [if_pos (by omega)] at this
    rw [← this]
    exact sumTo_congr fun l _ => by grind
  rw [h2]
  by_cases h3 : i < k
  · rw [if_pos (by omega), if_pos h3]; grind
  · by_cases h4 : i < k + 1
    · rw [if_pos h4, if_neg h3, hz i (by omega) hi]; grind
    · rw [if_neg h4, hz i (by omega) hi]; grind

-- Horner
theorem horn_at {c k : Nat} {f : Nat → Nat → Rat} {p : Nat → Rat} : ∀ s, s ≤ k + 1 → ∀ i l, horn c f p (k + 1) s i l = sumTo s fun t => p (k + 1 - s + t) * pw c f t i l
  | 0, _, i, l => by show idF i l * 0 = 0; grind
  | s + 1, hs, i, l => by
    show mulF c (horn c f p (k + 1) s) f i l + idF i l * p (k + 1 - 1 - s) = _
    rw [sumTo_shift]
    have e1 : mulF c (horn c f p (k + 1) s) f i l = sumTo s fun t => p (k + 1 - s + t) * mulF c (pw c f t) f i l := by
      unfold mulF
      have : ∀ (n : Nat) (F : Nat → Nat → Rat) (q : Nat → Rat), sumTo c (fun m => sumTo n (fun t => q t * F t m) * f m l) = sumTo n fun t => q t * sumTo c fun m => F t m * f m l := fun n F q => by
        induction n with
        | zero =>
          show sumTo c (fun m => (0 : Rat) * f m l) = 0
          rw [sumTo_congr (g := fun _ => 0) fun k _ => by grind, sumTo_zero]
        | succ n ih =>
          show sumTo c (fun m => (sumTo n (fun t => q t * F t m) + q n * F n m) * f m l) = sumTo n (fun t => q t * sumTo c fun m => F t m * f m l) + q n * sumTo c fun m => F n m * f m l
          rw [← ih, ← sumTo_mul, ← sumTo_add]
          exact sumTo_congr fun k _ => by grind
      rw [sumTo_congr fun m _ => by rw [horn_at s (by omega) i m]]
      exact this s (fun t m => pw c f t i m) fun t => p (k + 1 - s + t)
    rw [e1]
    have e2 : ∀ t, t < s → p (k + 1 - (s + 1) + (t + 1)) * pw c f (t + 1) i l = p (k + 1 - s + t) * mulF c (pw c f t) f i l := fun t _ => by
      rw [show k + 1 - (s + 1) + (t + 1) = k + 1 - s + t by omega]; rfl
    rw [sumTo_congr e2, show k + 1 - 1 - s = k + 1 - (s + 1) + 0 by omega]
    show _ + idF i l * _ = p _ * idF i l + _
    grind

theorem horn_zero {c k : Nat} {f : Nat → Nat → Rat} {p : Nat → Rat} (h : Nul (c * c) (k + 1) (colT c f) p) : ∀ i, i < c → ∀ l, l < c → horn c f p (k + 1) (k + 1) i l = 0 := fun i hi l hl => by
  rw [horn_at (k + 1) (Nat.le_refl _)]
  have hc : 0 < c := by omega
  have h1 : c * i + l < c * c := by
    have : c * i + c ≤ c * c := by rw [← Nat.mul_succ]; exact Nat.mul_le_mul_left _ hi
    omega
  have h2 := h (c * i + l) h1
  rw [← h2]
  refine sumTo_congr fun t _ => ?_
  unfold colT flatF
  rw [Nat.mul_add_div hc, Nat.div_eq_of_lt hl, Nat.mul_add_mod, Nat.mod_eq_of_lt hl, Nat.add_zero, show k + 1 - (k + 1) + t = t by omega]
  grind

theorem sum1 (f : Nat → Rat) : sumTo 1 f = 0 + f 0 := rfl
theorem sum2 (f : Nat → Rat) : sumTo 2 f = 0 + f 0 + f 1 := rfl
theorem sum3 (f : Nat → Rat) : sumTo 3 f = 0 + f 0 + f 1 + f 2 := rfl
theorem sum4 (f : Nat → Rat) : sumTo 4 f = 0 + f 0 + f 1 + f 2 + f 3 := rfl

theorem cayley1 (f : Nat → Nat → Rat) : ∃ v : Nat → Rat, v 1 = 1 ∧ Nul (1 * 1) (1 + 1) (colT 1 f) v := by
  refine ⟨fun l => if l = 0 then - f 0 0 else 1, by simp, fun i hi => ?_⟩
  have : i = 0 := by omega
  subst this
  rw [sum2]
  simp [colT, flatF, pw, idF, mulF, sum1]
  grind
theorem cayley2 (f : Nat → Nat → Rat) : ∃ v : Nat → Rat, v 2 = 1 ∧ Nul (2 * 2) (2 + 1) (colT 2 f) v := by
  refine ⟨fun l => if l = 0 then f 0 0 * f 1 1 - f 0 1 * f 1 0 else if l = 1 then -(f 0 0 + f 1 1) else 1, by simp, fun i hi => ?_⟩
  have : i = 0 ∨ i = 1 ∨ i = 2 ∨ i = 3 := by omega
  rcases this with rfl | rfl | rfl | rfl <;> rw [sum3] <;> simp [colT, flatF, pw, idF, mulF, sum2] <;> grind
end Mine
end

section
open PySem PySem.Calls PyProof.Rows PySem.W
namespace Mine
theorem cayley3 (f : Nat → Nat → Rat) : ∃ v : Nat → Rat, v 3 = 1 ∧ Nul (3 * 3) (3 + 1) (colT 3 f) v := by
  refine ⟨fun l => if l = 0 then -(f 0 0 * (f 1 1 * f 2 2 - f 1 2 * f 2 1) - f 0 1 * (f 1 0 * f 2 2 - f 1 2 * f 2 0) + f 0 2 * (f 1 0 * f 2 1 - f 1 1 * f 2 0))
    else if l = 1 then (f 0 0 * f 1 1 - f 0 1 * f 1 0) + (f 0 0 * f 2 2 - f 0 2 * f 2 0) + (f 1 1 * f 2 2 - f 1 2 * f 2 1) else if l = 2 then -(f 0 0 + f 1 1 + f 2 2) else 1, by simp, fun i hi => ?_⟩
  have : i = 0 ∨ i = 1 ∨ i = 2 ∨ i = 3 ∨ i = 4 ∨ i = 5 ∨ i = 6 ∨ i = 7 ∨ i = 8 := by omega
  rcases this with rfl | rfl | rfl | rfl | rfl | rfl | rfl | rfl | rfl <;> rw [sum4] <;> simp [colT, flatF, pw, idF, mulF, sum3] <;> grind
end Mine
end

section
open PySem PySem.Calls PyProof.Rows PySem.W
namespace Mine

theorem colT_at {c i l t : Nat} {f : Nat → Nat → Rat} (hl : l < c) : colT c f (c * i + l) t = pw c f t i l := by
  unfold colT flatF
  rw [Nat.mul_add_div (by omega), Nat.div_eq_of_lt hl, Nat.mul_add_mod, Nat.mod_eq_of_lt hl, Nat.add_zero]
theorem pw_one {c i l : Nat} {f : Nat → Nat → Rat} (hi : i < c) : pw c f 1 i l = f i l := by
  show mulF c idF f i l = _
  unfold mulF idF
  rw [sumTo_unit (v := fun m => f m l), if_pos hi]
theorem idx_lt {c i l : Nat} (hi : i < c) (hl : l < c) : c * i + l < c * c := by
  have : c * i + c ≤ c * c := by rw [← Nat.mul_succ]; exact Nat.mul_le_mul_left _ hi
  omega

theorem plain_of {c : Nat} {g : Nat → Nat → Int} (hc0 : 0 < c) (hc : c ≤ 3) (hg : ∀ i l, i < c → l < c → (g i l).natAbs ≤ 2) (hch : ∃ v : Nat → Rat, v c = 1 ∧ Nul (c * c) (c + 1) (colT c fun i l => (g i l : Rat)) v) : PlainOk c g where
  ex := by
    obtain ⟨v, hv, hn⟩ := hch
    refine Classical.byContradiction fun hno => ?_
    have hall : ∀ j, j < c + 1 → j ∈ (ech (c * c) (colT c fun i l => (g i l : Rat)) (j + 1)).piv := fun j hj => Classical.byContradiction fun q => hno ⟨j, by omega, q⟩
    have := no_nul hall hn
    rw [hv] at this
    exact absurd this (by decide)
  all := by
    intro k hk hj hnk
    obtain ⟨hp, hnul⟩ := rel_null (r := c * c) (f := colT c fun i l => (g i l : Rat)) hj hnk
    have hcc0 : 0 < c * c := Nat.mul_pos hc0 hc0
    have epK : pK c (fun i l => (g i l : Rat)) k = depK (ech (c * c) (colT c fun i l => (g i l : Rat)) (k + 1)).g k (List.range k) k := by
      unfold pK echT
      rw [hp, List.length_range]
    have epk : pK c (fun i l => (g i l : Rat)) k k = 1 := by rw [epK, depK_at k (Nat.le_refl _)]; simp
    have hnul' : Nul (c * c) (k + 1) (colT c fun i l => (g i l : Rat)) (pK c (fun i l => (g i l : Rat)) k) := epK ▸ hnul
    have hk1 : 1 ≤ k := by
      refine Nat.one_le_iff_ne_zero.mpr fun q => ?_
      subst q
      have := hnul' 0 hcc0
      rw [sum1, epk] at this
      have e : colT c (fun i l => (g i l : Rat)) 0 0 = 1 := by
        have := colT_at (i := 0) (l := 0) (t := 0) (f := fun i l => (g i l : Rat)) hc0
        rw [Nat.mul_zero] at this
        rw [this]; rfl
      rw [e] at this
      grind
    refine ⟨hk1, epk, fun l hl => ?_, horn_zero hnul', fun h1 => ?_, fun hsc => ?_⟩
    · rw [epK, depK_at k (Nat.le_refl _)]
      have hcl : AllBd (pwb 2 c) (c * c) (k + 1) (colT c fun i l => (g i l : Rat)) := fun i hi l hl => by
        have h1 : i / c < c := Nat.div_lt_of_lt_mul hi
        have h2 : i % c < c := Nat.mod_lt _ hc0
        exact (pwBd hc (grid_bd hg) l _ h1 _ h2).mono (pwb_mono (by omega))
      have hb := ech_bd hcl (k + 1) (Nat.le_refl _)
      have hB : ebd (pwb 2 c) (k + 1) ≤ 2 ^ 17 := by
        have e1 : pwb 2 c ≤ pwb 2 3 := pwb_mono hc
        have e2 := ebd_le e1 (k + 1)
        have e3 : ebd (pwb 2 3) (k + 1) ≤ ebd (pwb 2 3) 4 := ebd_mono (by omega)
        have e4 : ebd (pwb 2 3) 4 ≤ 2 ^ 17 := by decide
        omega
      have hlen := ech_len (c * c) (colT c fun i l => (g i l : Rat)) (k + 1)
      rw [hp, List.length_range] at hlen
      split
      · exact ((hb l (by omega) k (by omega)).mono hB).neg
      · split
        · exact ⟨by decide +kernel, by decide +kernel⟩
        · exact .zero (by decide)
    · subst h1
      have h2 : ∀ i l, i < c → l < c → idF i l * pK c (fun i l => (g i l : Rat)) 1 0 + (g i l : Rat) = 0 := fun i l hi hl => by
        have := hnul' (c * i + l) (idx_lt hi hl)
        rw [sum2, colT_at hl, colT_at hl, epk, pw_one hi] at this
        have e : pw c (fun i l => (g i l : Rat)) 0 i l = idF i l := rfl
        rw [e] at this
        grind
      intro i hi l hl
      have a := h2 0 0 hc0 hc0
      have b := h2 i l hi hl
      have id0 : idF 0 0 = 1 := rfl
      rw [id0] at a
      by_cases h : l = i
      · subst h
        have id1 : idF l l = 1 := by unfold idF; rw [if_pos rfl]
        rw [id1] at b
        rw [if_pos rfl]
        have : (g l l : Rat) = (g 0 0 : Rat) := by grind
        exact Rat.intCast_inj.mp this
      · have id1 : idF i l = 0 := by unfold idF; rw [if_neg (Ne.symm h)]
        rw [id1] at b
        rw [if_neg h]
        have : (g i l : Rat) = 0 := by grind
        exact Rat.intCast_eq_zero_iff.mp this
    · refine Classical.byContradiction fun hne => ?_
      have hall : ∀ j, j < 1 + 1 → j ∈ (ech (c * c) (colT c fun i l => (g i l : Rat)) (j + 1)).piv := fun j hj' => hj j (by omega)
      have hv : Nul (c * c) (1 + 1) (colT c fun i l => (g i l : Rat)) fun l => if l = 0 then -(g 0 0 : Rat) else 1 := fun x hx => by
        have hd : x = c * (x / c) + x % c := (Nat.div_add_mod x c).symm
        have h1 : x / c < c := Nat.div_lt_of_lt_mul hx
        have h2 : x % c < c := Nat.mod_lt _ hc0
        rw [hd, sum2, colT_at h2, colT_at h2, pw_one h1]
        have e : pw c (fun i l => (g i l : Rat)) 0 (x / c) (x % c) = idF (x / c) (x % c) := rfl
        rw [e, hsc _ h1 _ h2]
        unfold idF
        by_cases h : x / c = x % c
        · rw [if_pos h, if_pos h.symm]; simp; grind
        · rw [if_neg h, if_neg (Ne.symm h)]; simp; grind
      have := no_nul hall hv
      exact absurd this (by simp)

theorem plain_ok : ∀ c g, 0 < c → c ≤ 3 → (∀ i l, i < c → l < c → (g i l).natAbs ≤ 2) → PlainOk c g := fun c g h0 h3 hg => plain_of h0 h3 hg (by
  have : c = 1 ∨ c = 2 ∨ c = 3 := by omega
  rcases this with rfl | rfl | rfl
  · exact cayley1 _
  · exact cayley2 _
  · exact cayley3 _)

end Mine
end

section
open PySem PySem.Calls PyProof.Rows PySem.W
namespace Mine
theorem ghost_seer {h : Heap} {tabs : List (Addr × Addr)} (hT : TabsAt tabs h) (x : h.NoSeer) : (ghostOf h tabs).NoSeer where
  statics := let ⟨mc, a, b⟩ := x.statics; ⟨mc, ghost_ns hT a, b⟩
  mods := let ⟨mc, a, b⟩ := x.mods; ⟨mc, ghost_ns hT a, b⟩
  imp := let ⟨mc, a, b⟩ := x.imp; ⟨mc, ghost_ns hT a, b⟩
  main := let ⟨mg, bm, ob, a, b, c, d, e⟩ := x.main; ⟨mg, bm, ob, ghost_ns hT a, b, ghost_get hT c (fun q => by rw [q] at d; cases d), d, e⟩
end Mine
end

section
open Mine PySem PySem.Calls PyProof.Rows PySem.W
set_option maxRecDepth 100000 in
set_option maxHeartbeats 8000000 in
theorem PySem.Challenge.cw_pq0188_01_holds : PySem.Challenge.rw_pq0188_01.Holds :=
  Mine.hd (by
  w_strict k_go0
  rename Top _ _ _ _ _ _ => T'
  rename Top view _ _ _ _ _ => T0
  rename Frag.In _ _ => X'
  rename Fr _ _ _ _ => F'
  rename News _ _ _ _ => N'
  rename Well _ _ _ _ => w1
  rename TabsAt _ _ => hT9
  obtain ⟨vs, gl, wa⟩ := well_list w1
  have gg := ghost_get hT9 gl (fun q => by cases q)
  have G : Gd _ _ (KK _) _ := ⟨T'.g, T'.b, T'.nolimit, ghost_seer hT9 (T0.seer (by decide +kernel)), X', fun x hx => T'.builtins x hx⟩
  refine law_final G (by rfl) codeHd ?_ plain_ok F' ?_ ?_ (F'.keep _ _ gg) (reps_ints wa) N' ?_ ?_ ?_
  · intro h e
    obtain ⟨bm, ob, b1, b2, b3, b4, b5, b6⟩ := T'.bmain
    refine ⟨bm, ob, b1, b2, fun q => ?_, fun q => ?_, e _ _ b3, b4, b5, b6⟩
    · obtain ⟨o, es, ep, g, hd, _⟩ := T'.g
      rw [q, g] at b3; cases b3; rw [hd] at b6; cases b6
    · have := (N' (216, tabObj #[]) (by simp)).2.2
      rw [q, this] at b3; cases b3
  · rfl
  · omega
  · simp
  · intro i h1 h2
    have : i = 1 ∨ i = 2 ∨ i = 3 ∨ i = 4 ∨ i = 5 := by omega
    rcases this with rfl | rfl | rfl | rfl | rfl
    · exact ⟨_, _, .tail _ (.tail _ (.tail _ (.tail _ (.head _)))), by assumption⟩
    · exact ⟨_, _, .tail _ (.tail _ (.tail _ (.head _))), by assumption⟩
    · exact ⟨_, _, .tail _ (.tail _ (.head _)), by assumption⟩
    · exact ⟨_, _, .tail _ (.head _), by assumption⟩
    · exact ⟨_, _, .head _, by assumption⟩
  · rintro s' ⟨hh, tk, es⟩ hext ⟨c1, c2, tb⟩
    subst es
    refine ⟨⟨.inl ⟨.bool true, .bool true, [], rfl, fun _ => rfl, ?_, ?_, fun _ => ⟨List.nodup_nil, fun a ha => nomatch ha⟩⟩, hext, rfl, ?_⟩, ⟨_, tb⟩, trivial⟩
    · constructor
    · first | rfl | decide | kernel_rfl
    · assumption)
end
