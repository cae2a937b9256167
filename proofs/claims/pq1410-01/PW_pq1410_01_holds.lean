import PyProof.Rows.All
import Wide.All
import OpenK.AllK
import Wide.FinOn
import PySem.Challenge.RW_pq1410_01
open PySem PySem.W PyProof.Rows PySem.Calls
set_option Elab.async false
set_option maxRecDepth 1000000
set_option maxHeartbeats 0
namespace Mine
section
section
noncomputable def topRunT (tb : String → Option Builtin) (p : Program) (w : World) (n₀ : Nat) (ann : Option Value) : Nat → SharedT → Thread → Option SharedT
  | 0, _, _ => none
  | n + 1, s, t => match through t with
    | true => some s
    | false => match stepOk n₀ ann t with
      | false => none
      | true => match PySem.W.Fast.tw10156331382660048174 (PySem.W.Fast.tw11892475500146522536 tb) p w s t with
        | some (s', t') => topRunT tb p w n₀ ann n s' t'
        | none => none
theorem topRunT_of {tb : String → Option Builtin} {p : Program} {w : World} {n₀ : Nat} {ann : Option Value} : ∀ {n : Nat} {s s' : SharedT} {t : Thread}, topRunT tb p w n₀ ann n s t = some s' → topRun tb p w n₀ ann n s.abs t = some s'.abs
  | 0, _, _, _, h => by cases h
  | n + 1, s, s', t, h => by
    unfold topRunT at h
    unfold topRun
    cases he : through t with
    | true => rw [he] at h; cases h; rfl
    | false =>
      rw [he] at h
      cases hk : stepOk n₀ ann t with
      | false => rw [hk] at h; cases h
      | true =>
        rw [hk, ← PySem.W.Fast.te10156331382660048174, ← PySem.W.Fast.te11892475500146522536] at h
        cases hs : stepT (denote tb) p w s t with
        | none => rw [hs] at h; cases h
        | some r => obtain ⟨s₂, t₂⟩ := r; rw [hs] at h; rw [stepT_spec hs]; exact topRunT_of h
def insAll (t : BT) : Nat → List Obj → BT
  | _, [] => t
  | n, o :: r => insAll (t.ins n o) (n + 1) r
noncomputable def boot_tree (P : Params) : BT := insAll .nil 0 (boot_heap P).objs.toList
theorem boot_abs (P : Params) : absHeap (boot_tree P) 11 (boot_heap P).life = boot_heap P := by kernel_rfl
theorem sz (P : Params) : ((boot_heap P).isNs mainGlobals && (Array.mk [] : Array GenState).size == 0, (boot_heap P).objs.size, (boot_heap P).nsMap mainGlobals "__annotations__") = (true, 11, some (.ref 6)) := by kernel_rfl
theorem left_tree {p q : Program} {loose : List Str} {Xt : Shared → Bool} {α : Type} {Yf : Shared → α} {Ya : World → α} {N : Nat}
    (e : opening p = plainProg p.main.scope.names) (hN : Nat.ble 600 N = true) (f : ∀ s, fenceModules? p s = some s)
    (h : ∀ (w : World) (os : OsState), (topRunT treeTable p w 11 (some (.ref 6)) N ⟨boot_tree w.params, 11, (boot_heap w.params).life, Array.mk [], boot_drawn, boot_toks, os⟩ (topStub p)).map
      (fun S => ((staticsOk (importedModules p.main.body) (boot_heap w.params) S.abs.heap && namesBound p S.abs.heap && gensDone S.abs && laidKept (boot_heap w.params) S.abs.heap),
        openSeen q loose (importedModules p.main.body) Xt true S.abs, Yf S.abs)) = some (true, openGood q loose, Ya w)) :
    LeftO p q loose Xt Yf Ya N := by
  intro w
  obtain ⟨s, hs, hv⟩ := Option.map_eq_some_iff.mp (boot_open e hN f w)
  obtain ⟨hp, gs, d, k, os⟩ := s
  obtain ⟨rfl, rfl, rfl, rfl⟩ : hp = boot_heap w.params ∧ gs = Array.mk [] ∧ d = boot_drawn ∧ k = boot_toks := by simpa using hv
  obtain ⟨S, h1, h2⟩ := Option.map_eq_some_iff.mp (h w os)
  obtain ⟨k1, k2, k3⟩ : _ ∧ _ ∧ _ := by simpa only [Prod.mk.injEq] using h2
  obtain ⟨z1, z2, z3⟩ : _ ∧ _ ∧ _ := by simpa only [Prod.mk.injEq] using sz w.params
  have r := topRunT_of h1
  have eb : (⟨boot_tree w.params, 11, (boot_heap w.params).life, Array.mk [], boot_drawn, boot_toks, os⟩ : SharedT).abs = ⟨boot_heap w.params, Array.mk [], boot_drawn, boot_toks, os⟩ := by
    show (⟨absHeap (boot_tree w.params) 11 (boot_heap w.params).life, _, _, _, _⟩ : Shared) = _
    rw [boot_abs]
  rw [eb] at r
  have t : topFrom treeTable p w N ⟨boot_heap w.params, Array.mk [], boot_drawn, boot_toks, os⟩ = some S.abs := by
    unfold topFrom
    dsimp only
    rw [z1, z2, z3, r]
    show (match staticsOk (importedModules p.main.body) (boot_heap w.params) S.abs.heap && namesBound p S.abs.heap && gensDone S.abs && laidKept (boot_heap w.params) S.abs.heap with | true => _ | false => _) = _
    rw [k1]
  unfold openEnds
  rw [hs]
  show (topFrom treeTable p w N _).map _ = _
  rw [t]
  exact congrArg some (Prod.ext k2 k3)
def live : Option Obj → Option Obj
  | some ⟨_, _, .freed, _⟩ => none
  | o => o
noncomputable def treeAt (t : BT) : Nat → Option Obj := BT.rec (motive := fun _ => Nat → Option Obj) (fun _ => none) (fun v _ _ gl gr i => match Nat.beq i 0 with
  | true => some v
  | false => match Nat.beq (i % 2) 1 with
    | true => gl (i / 2)
    | false => gr (i / 2 - 1)) t
theorem treeAt_eq : ∀ (t : BT) (i : Nat), treeAt t i = t.get i
  | .nil, _ => rfl
  | .node v l r, i => by
    show (match Nat.beq i 0 with | true => some v | false => match Nat.beq (i % 2) 1 with | true => treeAt l (i / 2) | false => treeAt r (i / 2 - 1)) = _
    rw [treeAt_eq l, treeAt_eq r]
    rfl
noncomputable def getT (t : BT) (n a : Nat) : Option Obj := live (match Nat.blt a n with
  | true => some ((treeAt t a).getD default)
  | false => none)
theorem getT_eq (t : BT) (n : Nat) (life : Life) (a : Nat) : (absHeap t n life).get? a = getT t n a := by
  have h := absHeap_at t n life a
  show live (absHeap t n life).objs[a]? = _
  rw [h]
  unfold getT
  rw [treeAt_eq]
  by_cases q : a < n
  · rw [if_pos q, show Nat.blt a n = true from Nat.ble_eq_true_of_le q]
  · rw [if_neg q, show Nat.blt a n = false from Bool.eq_false_iff.mpr fun e => q (Nat.le_of_ble_eq_true e)]
theorem left_treeK {p q : Program} {loose : List Str} {Xt : Shared → Bool} {as : List Addr} {Ya : World → List (Option Obj)} {N : Nat}
    (e : opening p = plainProg p.main.scope.names) (hN : Nat.ble 600 N = true) (f : ∀ s, fenceModules? p s = some s)
    (h : ∀ (w : World) (os : OsState), (topRunT treeTable p w 11 (some (.ref 6)) N ⟨boot_tree w.params, 11, (boot_heap w.params).life, Array.mk [], boot_drawn, boot_toks, os⟩ (topStub p)).map
      (fun S => ((staticsOk (importedModules p.main.body) (boot_heap w.params) S.abs.heap && namesBound p S.abs.heap && gensDone S.abs && laidKept (boot_heap w.params) S.abs.heap),
        openSeen q loose (importedModules p.main.body) Xt true S.abs, as.map (getT S.tree S.n))) = some (true, openGood q loose, Ya w)) :
    LeftO p q loose Xt (fun s => as.map s.heap.get?) Ya N := left_tree e hN f fun w os => by
  refine Eq.trans ?_ (h w os)
  refine congrArg (fun F => Option.map F _) (funext fun S => ?_)
  exact congrArg (fun l => (_, _, l)) (List.map_congr_left fun a _ => getT_eq S.tree S.n S.life a)
abbrev P0 : Program := PySem.Challenge.pw_pq1410_01
def q : Program := view PySem.Challenge.pw_pq1410_01 [0, 2, 3, 5, 6, 7, 8, 9, 10, 11, 12, 14, 15, 17, 19, 20, 21]
theorem op : opening P0 = plainProg P0.main.scope.names := by kernel_rfl
theorem fe : ∀ s, fenceModules? P0 s = some s := fun s => by kernel_rfl
local macro_rules | `(tactic| o_head $H:term) => `(tactic| (
  refine holds_open (q := Mine.q) (loose := []) (Xt := fun s => xlAt Mine.q [] s && recOk [] s) (XP := XL Mine.q []) (Yf := Hook.obs $H) (Ya := Hook.val $H) (YP := Hook.says $H) (N := 6230) ?hl (Hook.of $H) (Hook.keeps $H) (fun s e => xl_of s (Bool.and_eq_true_iff.mp e).1) XL.keeps (by rfl) (by rfl) (by rfl) (fun s e => recFacts_of (Bool.and_eq_true_iff.mp e).2) (by rfl) (by first | assumption | decide +kernel) (by decide +kernel) ⟨rfl, rfl, rfl, rfl, rfl, by decide +kernel⟩ ?hw ?hc
  case hl => exact left_treeK op rfl fe (by
    intro w os
    rw [PySem.W.Fast.te14364793385576792824, PySem.W.Fast.te4187177175401517315]
    kernel_rfl)))
open_top hd for PySem.Challenge.rw_pq1410_01
end
section
theorem ltc {a b c : Nat} (h : b < c) (g : a < b) : a < c := Nat.lt_trans g h
theorem room {a b c d : Nat} (h : a + c < d) (hb : Nat.ble b c = true) : a + b < d := Nat.lt_of_le_of_lt (Nat.add_le_add_left (Nat.le_of_ble_eq_true hb) a) h
local macro_rules | `(tactic| units_room) => `(tactic| ktr_units)
local macro_rules | `(tactic| k_mem) => `(tactic| ((show (_ : Addr × Obj) ∈ (_ : List (Addr × Obj))); ktr_member))
local macro_rules | `(tactic| k_room) => `(tactic| ktr_room)
local macro_rules | `(tactic| k_get) => `(tactic| assumption)

def orig (κ nm' γ nm : Str) : Bool := if κ == Str.ofString "closure" then false else if nm' != nm then false else
  if ([Str.ofString "+", Str.ofString "-", Str.ofString "*", Str.ofString "/", Str.ofString "^", Str.ofString "%%", Str.ofString "%/%", Str.ofString "==", Str.ofString "!=", Str.ofString "<", Str.ofString "<=", Str.ofString ">", Str.ofString ">=", Str.ofString "!", Str.ofString "&", Str.ofString "|", Str.ofString "[", Str.ofString "[["].any fun x => x == nm) then (if κ == Str.ofString "builtin" then ((γ == Str.ofString "index") == (if nm == Str.ofString "[" then true else nm == Str.ofString "[[")) else false) else κ == Str.ofString "special"
theorem o1 {κ nm' γ nm : Str} (h : (κ == Str.ofString "closure") = true) : false = orig κ nm' γ nm := by unfold orig; rw [if_pos h]
theorem o2 {κ nm' γ nm : Str} (h : (κ == Str.ofString "closure") = false) (h2 : (nm' != nm) = true) : false = orig κ nm' γ nm := by unfold orig; rw [h, h2]; rfl
theorem o3 {κ nm' γ nm : Str} (h : (κ == Str.ofString "closure") = false) (h2 : (nm' != nm) = false) (h3 : ([Str.ofString "+", Str.ofString "-", Str.ofString "*", Str.ofString "/", Str.ofString "^", Str.ofString "%%", Str.ofString "%/%", Str.ofString "==", Str.ofString "!=", Str.ofString "<", Str.ofString "<=", Str.ofString ">", Str.ofString ">=", Str.ofString "!", Str.ofString "&", Str.ofString "|", Str.ofString "[", Str.ofString "[["].any fun x => x == nm) = true) (h4 : (κ == Str.ofString "builtin") = true) (h5 : (nm == Str.ofString "[") = true) : ((γ == Str.ofString "index") == (nm == Str.ofString "[")) = orig κ nm' γ nm := by unfold orig; rw [h, h2, h3, h4, h5]; rfl
theorem o4 {κ nm' γ nm : Str} (h : (κ == Str.ofString "closure") = false) (h2 : (nm' != nm) = false) (h3 : ([Str.ofString "+", Str.ofString "-", Str.ofString "*", Str.ofString "/", Str.ofString "^", Str.ofString "%%", Str.ofString "%/%", Str.ofString "==", Str.ofString "!=", Str.ofString "<", Str.ofString "<=", Str.ofString ">", Str.ofString ">=", Str.ofString "!", Str.ofString "&", Str.ofString "|", Str.ofString "[", Str.ofString "[["].any fun x => x == nm) = true) (h4 : (κ == Str.ofString "builtin") = true) (h5 : (nm == Str.ofString "[") = false) : ((γ == Str.ofString "index") == (nm == Str.ofString "[[")) = orig κ nm' γ nm := by unfold orig; rw [h, h2, h3, h4, h5]; rfl
theorem o5 {κ nm' γ nm : Str} (h : (κ == Str.ofString "closure") = false) (h2 : (nm' != nm) = false) (h3 : ([Str.ofString "+", Str.ofString "-", Str.ofString "*", Str.ofString "/", Str.ofString "^", Str.ofString "%%", Str.ofString "%/%", Str.ofString "==", Str.ofString "!=", Str.ofString "<", Str.ofString "<=", Str.ofString ">", Str.ofString ">=", Str.ofString "!", Str.ofString "&", Str.ofString "|", Str.ofString "[", Str.ofString "[["].any fun x => x == nm) = true) (h4 : (κ == Str.ofString "builtin") = false) : (κ == Str.ofString "builtin") = orig κ nm' γ nm := by unfold orig; rw [h, h2, h3, h4]; rfl
theorem o6 {κ nm' γ nm : Str} (h : (κ == Str.ofString "closure") = false) (h2 : (nm' != nm) = false) (h3 : ([Str.ofString "+", Str.ofString "-", Str.ofString "*", Str.ofString "/", Str.ofString "^", Str.ofString "%%", Str.ofString "%/%", Str.ofString "==", Str.ofString "!=", Str.ofString "<", Str.ofString "<=", Str.ofString ">", Str.ofString ">=", Str.ofString "!", Str.ofString "&", Str.ofString "|", Str.ofString "[", Str.ofString "[["].any fun x => x == nm) = false) : (κ == Str.ofString "special") = orig κ nm' γ nm := by unfold orig; rw [h, h2, h3]; rfl
theorem retB {h₀ h' : Heap} {L : Addr} {m : Str → Option Value} {news news' : List (Addr × Obj)} {s : Shared} {Q : Value → Shared → Prop} {tk' : Nat} {x y : Bool} (hret : ∀ (h' : Heap) (tk' : Nat), Fr h₀ L h' m → News h₀ L h' news → Q (.bool x) { s with heap := h', toks := tk' })
    (e : y = x) (F : Fr h₀ L h' m) (N : News h₀ L h' news') (hs : ∀ p ∈ news, p ∈ news') : Q (.bool y) { s with heap := h', toks := tk' } := by
  subst e
  exact hret h' tk' F fun p hp => N p (hs p hp)
theorem sub0 {news : List (Addr × Obj)} : ∀ p ∈ news, p ∈ news := fun _ h => h
theorem sub1 {news l : List (Addr × Obj)} {x : Addr × Obj} (h : ∀ p ∈ news, p ∈ l) : ∀ p ∈ news, p ∈ x :: l := fun p hp => .tail _ (h p hp)
theorem isor1 : ∀ {w : World} {dp un : Nat} {gd : Option (List Code)} {cn : Str} {cs : Scope} {a : Addr} {ccd : Value} {cl : List (Str × Addr)} {outer : List Env} {A₀ : Around} {base h₀ : Heap} {L : Addr} {m : Str → Option Value} {s : Shared} {Q E : Value → Shared → Prop}
    {mean : ExcName → Option Value} {mg mb : Str → Option Value} {v dv : Addr} {es : List DictEntry} {n : Nat} {κ nm' γ nm : Str} {tκ tn tg t : Tok} {news : List (Addr × Obj)}
    (B : Below A₀ base outer h₀) (F : Fr h₀ L s.heap m) (X : (hd.heap_39 w.params).In h₀) (N : News h₀ L s.heap news)
    (T : Top q (looseW q []) mean mg mb h₀) (hk : cs.kind = .function) (hd : dp + 10 < recursionLimit) (hu : un + 100 < cLine)
    (h1 : (v, instObj 145 dv) ∈ news) (h2 : (dv, dictOf es n) ∈ news) (g1 : getL "kind" es = some (some (.str κ tκ))) (g2 : getL "name" es = some (some (.str nm' tn))) (g3 : getL "group" es = some (some (.str γ tg)))
    (hQ : ∀ (h' : Heap) (tk' : Nat), Fr h₀ L h' m → News h₀ L h' news → Q (.bool (orig κ nm' γ nm)) { s with heap := h', toks := tk' }),
    wpAny (model PySem.Challenge.rw_pq1410_01.row.prog w) (ktrTop dp un gd cn cs L a ccd cl outer) (call (.ref 213) [.ref v, .str nm t]) Q E s := by
  k_fill
  w_top off
  intro w dp un gd cn cs a ccd cl outer A₀ base h₀ L m s Q E mean mg mb v dv es n κ nm' γ nm tκ tn tg t news B F X N T hk hd hu h1 h2 g1 g2 g3 hQ
  refine wpAny_call ?_
  k_dflt ktr_enter
  k_steps
  all_goals (
    rename Fr h₀ L _ m => eF
    rename News h₀ L _ _ => eN
    refine retB hQ ?e1 eF eN ?e2
    case e2 => repeat' (first | exact sub0 | refine sub1 ?_)
    case e1 => first
      | exact o1 (by with_reducible assumption)
      | exact o2 (by with_reducible assumption) (by with_reducible assumption)
      | exact o3 (by with_reducible assumption) (by with_reducible assumption) (by assumption) (by with_reducible assumption) (by with_reducible assumption)
      | exact o4 (by with_reducible assumption) (by with_reducible assumption) (by assumption) (by with_reducible assumption) (by with_reducible assumption)
      | exact o5 (by with_reducible assumption) (by with_reducible assumption) (by assumption) (by with_reducible assumption)
      | exact o6 (by with_reducible assumption) (by with_reducible assumption) (by assumption))
theorem isorC : ∀ {w : World} {dp un : Nat} {gd : Option (List Code)} {cn : Str} {cs : Scope} {a : Addr} {ccd : Value} {cl : List (Str × Addr)} {outer : List Env} {A₀ : Around} {base h₀ : Heap} {L : Addr} {m : Str → Option Value} {s : Shared} {Q E : Value → Shared → Prop}
    {mean : ExcName → Option Value} {mg mb : Str → Option Value} {v dv : Addr} {es : List DictEntry} {n : Nat} {nm : Str} {tκ t : Tok} {news : List (Addr × Obj)}
    (B : Below A₀ base outer h₀) (F : Fr h₀ L s.heap m) (X : (hd.heap_39 w.params).In h₀) (N : News h₀ L s.heap news)
    (T : Top q (looseW q []) mean mg mb h₀) (hk : cs.kind = .function) (hd : dp + 10 < recursionLimit) (hu : un + 100 < cLine)
    (h1 : (v, instObj 124 dv) ∈ news) (h2 : (dv, dictOf es n) ∈ news) (g1 : getL "kind" es = some (some (.str (Str.ofString "closure") tκ)))
    (hQ : ∀ (h' : Heap) (tk' : Nat), Fr h₀ L h' m → News h₀ L h' news → Q (.bool false) { s with heap := h', toks := tk' }),
    wpAny (model PySem.Challenge.rw_pq1410_01.row.prog w) (ktrTop dp un gd cn cs L a ccd cl outer) (call (.ref 213) [.ref v, .str nm t]) Q E s := by
  k_fill
  w_top off
  intro w dp un gd cn cs a ccd cl outer A₀ base h₀ L m s Q E mean mg mb v dv es n nm tκ t news B F X N T hk hd hu h1 h2 g1 hQ
  refine wpAny_call ?_
  k_dflt ktr_enter
  k_steps
  all_goals (
    rename Fr h₀ L _ m => eF
    rename News h₀ L _ _ => eN
    exact retB hQ rfl eF eN sub0)
def fnKind (κ : Str) : Bool := [Str.ofString "closure", Str.ofString "builtin", Str.ofString "special"].any fun x => x == κ
theorem isfn : ∀ {w : World} {dp un : Nat} {gd : Option (List Code)} {cn : Str} {cs : Scope} {a : Addr} {ccd : Value} {cl : List (Str × Addr)} {outer : List Env} {A₀ : Around} {base h₀ : Heap} {L : Addr} {m : Str → Option Value} {s : Shared} {Q E : Value → Shared → Prop}
    {mean : ExcName → Option Value} {mg mb : Str → Option Value} {C v dv : Addr} {es : List DictEntry} {n : Nat} {κ : Str} {tκ : Tok} {news : List (Addr × Obj)}
    (B : Below A₀ base outer h₀) (F : Fr h₀ L s.heap m) (X : (hd.heap_39 w.params).In h₀) (N : News h₀ L s.heap news)
    (T : Top q (looseW q []) mean mg mb h₀) (hk : cs.kind = .function) (hd : dp + 10 < recursionLimit) (hu : un + 100 < cLine)
    (hC : C = 81 ∨ C = 145 ∨ C = 124) (h1 : (v, instObj C dv) ∈ news) (h2 : (dv, dictOf es n) ∈ news) (g1 : getL "kind" es = some (some (.str κ tκ)))
    (hQ : ∀ (h' : Heap) (tk' : Nat), Fr h₀ L h' m → News h₀ L h' news → Q (.bool (fnKind κ)) { s with heap := h', toks := tk' }),
    wpAny (model PySem.Challenge.rw_pq1410_01.row.prog w) (ktrTop dp un gd cn cs L a ccd cl outer) (call (.ref 199) [.ref v]) Q E s := by
  k_fill
  w_top off
  intro w dp un gd cn cs a ccd cl outer A₀ base h₀ L m s Q E mean mg mb C v dv es n κ tκ news B F X N T hk hd hu hC h1 h2 g1 hQ
  rcases hC with hC | hC | hC
  all_goals (
    subst hC
    refine wpAny_call ?_
    k_dflt ktr_enter
    k_steps
    rename Fr h₀ L _ m => eF
    rename News h₀ L _ _ => eN
    refine retB hQ rfl eF eN ?_
    repeat' (first | exact sub0 | refine sub1 ?_))
end
section
theorem isStr_ne {x k nm : Str} {key : Value} (hk : (nm == k) = false) (h : key.isStr nm = true) : key.isStr k = false := by
  cases key <;> first | cases h | skip
  rename_i s t
  have e : s = nm := by simpa [Value.isStr] using h
  subst e
  simpa [Value.isStr] using hk
theorem getL_cons {k : Str} {e : DictEntry} {r : List DictEntry} (h : e.key.isStr k = false) : getL k (e :: r) = match r.find? (·.key.isStr k) with | some e' => some (some e'.val) | none => if e.refKey || r.any (·.refKey) then none else some none := by
  unfold getL
  simp only [List.find?_cons, h, List.any_cons]
  cases r.find? (·.key.isStr k) <;> rfl
theorem getL_put_ne {k nm : Str} {hsh : Int} {t : Tok} {v : Value} {x : Option Value} (hk : (nm == k) = false) : ∀ {es : List DictEntry}, getL k es = some x → getL k (putL nm hsh (.str nm t) v es) = some x
  | [], h => by
    have e : getL k [] = some none := rfl
    rw [e] at h
    unfold putL
    rw [getL_cons (by simpa [Value.isStr] using hk), ← h]
    rfl
  | e :: r, h => by
    unfold putL
    by_cases hn : e.key.isStr nm = true
    · rw [if_pos hn]
      have hf : e.key.isStr k = false := isStr_ne (x := k) hk hn
      rw [getL_cons hf] at h
      rw [getL_cons (e := ⟨e.hash, e.key, v⟩) hf]
      exact h
    · rw [if_neg hn]
      by_cases hk' : e.key.isStr k = true
      · unfold getL at h ⊢
        simp only [List.find?_cons, hk'] at h ⊢
        exact h
      · have hf : e.key.isStr k = false := by simpa using hk'
        have ih := fun y => @getL_put_ne k nm hsh t v y hk r
        rw [getL_cons hf] at h
        rw [getL_cons hf]
        cases hr : r.find? (·.key.isStr k) with
        | some e' =>
          rw [hr] at h
          have h1 : getL k r = some (some e'.val) := by unfold getL; rw [hr]
          have h2 := ih _ h1
          unfold getL at h2
          cases hp : (putL nm hsh (.str nm t) v r).find? (·.key.isStr k) with
          | some e'' => rw [hp] at h2; exact h2.trans (by simpa using h)
          | none => rw [hp] at h2; dsimp only at h2; split at h2 <;> simp at h2
        | none =>
          rw [hr] at h
          dsimp only at h
          by_cases hq : (e.refKey || r.any (·.refKey)) = true
          · rw [if_pos hq] at h; cases h
          · rw [if_neg hq] at h
            have hq' : e.refKey = false ∧ r.any (·.refKey) = false := by simpa using hq
            have h1 : getL k r = some none := by unfold getL; rw [hr]; simp [hq'.2]
            have h2 := ih _ h1
            unfold getL at h2
            cases hp : (putL nm hsh (.str nm t) v r).find? (·.key.isStr k) with
            | some e'' => rw [hp] at h2; cases h2
            | none =>
              rw [hp] at h2
              dsimp only at h2 ⊢
              rw [hq'.1, Bool.false_or]
              exact h2.trans (by simpa using h)
theorem getL_put_eq {nm : Str} {hsh : Int} {t : Tok} {v : Value} : ∀ {es : List DictEntry}, getL nm (putL nm hsh (.str nm t) v es) = some (some v)
  | [] => by unfold putL getL; simp [Value.isStr]
  | e :: r => by
    unfold putL
    by_cases hn : e.key.isStr nm = true
    · rw [if_pos hn]; unfold getL; simp [hn]
    · rw [if_neg hn]
      have ih := @getL_put_eq nm hsh t v r
      have hf : e.key.isStr nm = false := by simpa using hn
      rw [getL_cons hf]
      unfold getL at ih
      cases hp : (putL nm hsh (.str nm t) v r).find? (·.key.isStr nm) with
      | some e'' => rw [hp] at ih; exact ih
      | none => rw [hp] at ih; dsimp only at ih; split at ih <;> simp at ih
theorem putL_len {nm : Str} {hsh : Int} {key v : Value} : ∀ {es : List DictEntry}, (putL nm hsh key v es).length ≤ es.length + 1
  | [] => by simp [putL]
  | e :: r => by
    unfold putL
    have ih := @putL_len nm hsh key v r
    split <;> simp only [List.length_cons] <;> omega
end
local macro_rules | `(tactic| units_room) => `(tactic| ktr_units)
section
local macro_rules | `(tactic| k_all) => `(tactic| assumption)
theorem pop0 {prog : Program} {w : World} {A : Around} {E : Value → Shared → Prop} {s : Shared} {h₀ : Heap} {L D : Addr} {m : Str → Option Value} {news news' : List (Addr × Obj)} {n : Nat} {u : Tok} {y : Value} {l : List Value} {Q : Value → Shared → Prop}
    (F : Fr h₀ L s.heap m) (N : News h₀ L s.heap news) (U : Upd D (listOf (y :: l).toArray n) (listOf l.toArray (n + 1)) news news') (hz : l.length < 1000)
    (h : ∀ h', Fr h₀ L h' m → News h₀ L h' news' → Q y { s with heap := h' }) : wpAny (model prog w) A (call (.builtin "list.pop") [.ref D, .int 0 u]) Q E s :=
  kl_popAt (p := []) (q := l) (k := 0) F N (by decide) (by
    simp only [List.size_toArray, List.length_cons, seqIndex?]
    simp) rfl U (by
    have : sizeLine = 16777216 := by rfl
    simp only [List.length_cons]; omega) h
local macro_rules | `(tactic| walk_at "call builtin:list.pop") => `(tactic| (k_here; k_dflt ((with_reducible show wpAny _ _ (call (Value.builtin _) [Value.ref _, Value.int _ _]) _ _ _); refine' pop0 ?F ?N ?U ?z ?_; (case F => k_asm); (case N => k_asm); (case U => k_upd); (case z => (have hl9 := IntsAre.length (by assumption); (simp only [List.length_cons] at *); omega))); (intro h' F' N'; (try dsimp only [List.nil_append, List.cons_append] at N'))))

theorem take1 : ∀ {w : World} {dp un : Nat} {gd : Option (List Code)} {cn : Str} {cs : Scope} {a : Addr} {ccd : Value} {cl : List (Str × Addr)} {outer : List Env} {A₀ : Around} {base h₀ : Heap} {L : Addr} {m : Str → Option Value} {s : Shared} {Q E : Value → Shared → Prop}
    {mean : ExcName → Option Value} {mg mb : Str → Option Value} {src l0 : Addr} {n0 n1 : Nat} {vs : List Value} {ns : List Int} {ia ib most : Int} {ta tb tm : Tok} {rest : List (Addr × Obj)}
    (B : Below A₀ base outer h₀) (F : Fr h₀ L s.heap m) (X : (hd.heap_39 w.params).In h₀) (N : News h₀ L s.heap ((src, listOf #[.ref l0, .int ia ta, .int ib tb] n1) :: (l0, listOf vs.toArray n0) :: rest))
    (T : Top q (looseW q []) mean mg mb h₀) (hk : cs.kind = .function) (hd : dp + 1 < recursionLimit) (hu : un + 100 < cLine)
    (hne : ¬ (@Eq Nat src l0)) (hr1 : ∀ p ∈ rest, p.1 ≠ src) (hr2 : ∀ p ∈ rest, p.1 ≠ l0) (hI : IntsAre vs ns) (hlen : ns.length ≤ 63) (ha0 : 0 ≤ ia) (hb0 : 0 ≤ ib) (hb1 : ib < 2147483563) (hm0 : 0 < most) (hm1 : most ≤ 8)
    (hQ : ∀ (r : Int) (t : Tok) (vs' : List Value) (ns' : List Int) (n0' n1' : Nat) (ia' ib' : Int) (ta' tb' : Tok) (h' : Heap) (tk' : Nat), Fr h₀ L h' m → News h₀ L h' ((src, listOf #[.ref l0, .int ia' ta', .int ib' tb'] n1') :: (l0, listOf vs'.toArray n0') :: rest) →
      IntsAre vs' ns' → ns'.length ≤ 63 → 0 ≤ ia' → 0 ≤ ib' → ib' < 2147483563 → 0 ≤ r → r < most → Q (.int r t) { s with heap := h', toks := tk' }),
    wpAny (model PySem.Challenge.rw_pq1410_01.row.prog w) (ktrTop dp un gd cn cs L a ccd cl outer) (call (.ref 430) [.ref src, .int most tm]) Q E s := by
  k_fill
  w_top off
  intro w dp un gd cn cs a ccd cl outer A₀ base h₀ L m s Q E mean mg mb src l0 n0 n1 vs ns ia ib most ta tb tm rest B F X N T hk hd hu hne hr1 hr2 hI hlen ha0 hb0 hb1 hm0 hm1 hQ
  cases hI
  all_goals refine wpAny_call ?_
  all_goals k_dflt ktr_enter
  all_goals k_steps
  all_goals (
    rename Fr h₀ L _ m => eF
    rename News h₀ L _ _ => eN
    first
    | refine' hQ _ _ _ _ _ _ _ _ _ _ _ _ eF eN ?e1 ?e2 ?e3 ?e4 ?e5 (fmod_lo _ hm0) (fmod_hi _ hm0)
    | refine' hQ _ _ _ _ _ _ _ _ _ _ _ _ eF (fun p hp => eN p (.tail _ hp)) ?e1 ?e2 ?e3 ?e4 ?e5 (fmod_lo _ hm0) (fmod_hi _ hm0)
    case e1 => first | exact .nil | exact .cons _ _ (by assumption) | assumption
    case e2 => ((try simp only [List.length_cons, List.length_nil] at *); omega)
    case e3 => (refine Int.fdiv_nonneg ?_ (by omega); first | omega | (simp only [decide_eq_true_eq, decide_eq_false_iff_not] at *; omega) | (rw [Int.fmod_eq_emod_of_nonneg _ (by decide), Int.fdiv_eq_ediv_of_nonneg _ (by decide)]; omega))
    case e4 => first | omega | exact fmod_lo _ (by decide)
    case e5 => first | omega | exact fmod_hi _ (by decide))
end
local macro_rules | `(tactic| k_room) => `(tactic| ktr_room)
local macro_rules | `(tactic| k_mem) => `(tactic| ((show (_ : Addr × Obj) ∈ (_ : List (Addr × Obj))); ktr_member))
local macro_rules | `(tactic| k_get) => `(tactic| assumption)
section

/-- what a frame holds under the name, by the row's kind -/
inductive Cell (news : List (Addr × Obj)) : Option Value → Nat → Prop
  | nil : Cell news none 0
  | vec {v dv : Addr} {ev : List DictEntry} {nv : Nat} {t : Tok} : (v, instObj 81 dv) ∈ news → (dv, dictOf ev nv) ∈ news → getL "kind" ev = some (some (.str (Str.ofString "integer") t)) → Cell news (some (.ref v)) 1
  | fn {v dv : Addr} {ev : List DictEntry} {nv : Nat} {κ : Str} {t : Tok} : (v, instObj 145 dv) ∈ news → (dv, dictOf ev nv) ∈ news → getL "kind" ev = some (some (.str κ t)) → fnKind κ = true → (κ == Str.ofString "promise") = false → (κ == Str.ofString "missing") = false → Cell news (some (.ref v)) 2
  | freshV {p dp e de : Addr} {ep ee : List DictEntry} {np ne : Nat} {t1 t2 : Tok} : (p, instObj 188 dp) ∈ news → (dp, dictOf ep np) ∈ news → getL "kind" ep = some (some (.str (Str.ofString "promise") t1)) → getL "state" ep = some (some (.int 0 t2)) → getL "expr" ep = some (some (.ref e)) → (e, instObj 81 de) ∈ news → (de, dictOf ee ne) ∈ news → Cell news (some (.ref p)) 3
  | freshB {p dp e de : Addr} {ep ee : List DictEntry} {np ne : Nat} {t1 t2 : Tok} : (p, instObj 188 dp) ∈ news → (dp, dictOf ep np) ∈ news → getL "kind" ep = some (some (.str (Str.ofString "promise") t1)) → getL "state" ep = some (some (.int 0 t2)) → getL "expr" ep = some (some (.ref e)) → (e, instObj 145 de) ∈ news → (de, dictOf ee ne) ∈ news → Cell news (some (.ref p)) 4
  | missing {v dv : Addr} {ev : List DictEntry} {nv : Nat} {t : Tok} : (v, instObj 52 dv) ∈ news → (dv, dictOf ev nv) ∈ news → getL "kind" ev = some (some (.str (Str.ofString "missing") t)) → Cell news (some (.ref v)) 5
  | doneV {p dp e de v dv : Addr} {ep ee ev : List DictEntry} {np ne nv : Nat} {t1 t2 t3 : Tok} : (p, instObj 188 dp) ∈ news → (dp, dictOf ep np) ∈ news → getL "kind" ep = some (some (.str (Str.ofString "promise") t1)) → getL "state" ep = some (some (.int 2 t2)) → getL "expr" ep = some (some (.ref e)) → (e, instObj 102 de) ∈ news → (de, dictOf ee ne) ∈ news →
      getL "value" ep = some (some (.ref v)) → (v, instObj 81 dv) ∈ news → (dv, dictOf ev nv) ∈ news → getL "kind" ev = some (some (.str (Str.ofString "integer") t3)) → Cell news (some (.ref p)) 6
  | doneF {p dp e de v dv : Addr} {ep ee ev : List DictEntry} {np ne nv : Nat} {κ : Str} {t1 t2 t3 : Tok} : (p, instObj 188 dp) ∈ news → (dp, dictOf ep np) ∈ news → getL "kind" ep = some (some (.str (Str.ofString "promise") t1)) → getL "state" ep = some (some (.int 2 t2)) → getL "expr" ep = some (some (.ref e)) → (e, instObj 102 de) ∈ news → (de, dictOf ee ne) ∈ news →
      getL "value" ep = some (some (.ref v)) → (v, instObj 145 dv) ∈ news → (dv, dictOf ev nv) ∈ news → getL "kind" ev = some (some (.str κ t3)) → fnKind κ = true → (κ == Str.ofString "promise") = false → (κ == Str.ofString "missing") = false → Cell news (some (.ref p)) 7
/-- what the base frame holds -/
inductive BaseCell (nm : Str) (news : List (Addr × Obj)) : Option Value → Bool → Prop
  | nil : BaseCell nm news none false
  | clo {v dv : Addr} {ev : List DictEntry} {nv : Nat} {t : Tok} : (v, instObj 124 dv) ∈ news → (dv, dictOf ev nv) ∈ news → getL "kind" ev = some (some (.str (Str.ofString "closure") t)) → BaseCell nm news (some (.ref v)) false
  | fn {v dv : Addr} {ev : List DictEntry} {nv : Nat} {κ nm' γ : Str} {t t2 t3 : Tok} : (v, instObj 145 dv) ∈ news → (dv, dictOf ev nv) ∈ news → getL "kind" ev = some (some (.str κ t)) → getL "name" ev = some (some (.str nm' t2)) → getL "group" ev = some (some (.str γ t3)) → fnKind κ = true → (κ == Str.ofString "promise") = false → (κ == Str.ofString "missing") = false →
      BaseCell nm news (some (.ref v)) (orig κ nm' γ nm)
/-- a chain of environments, from the one below up to the base -/
inductive Chain (w : World) (nm : Str) (news : List (Addr × Obj)) : Value → Option (List Nat × Bool) → Prop
  | stop : Chain w nm news .none none
  | base {e de fb : Addr} {ee : List DictEntry} {ne : Nat} {t : Tok} {o : Obj} {kvs : List (Str × Value)} {x : Option Value} {due : Bool} : (e, instObj 167 de) ∈ news → (de, dictOf ee ne) ∈ news → getL "number" ee = some (some (.int 0 t)) → getL "parent" ee = some (some .none) → getL "frame" ee = some (some (.ref fb)) →
      (fb, o) ∈ news → o.IsDictOf (strKind PySem.Challenge.rw_pq1410_01.row.prog w) kvs → (fb == sysModules) = false → valueAt kvs nm = x → BaseCell nm news x due → Chain w nm news (.ref e) (some ([], due))
  | cons {e de fb : Addr} {ee : List DictEntry} {ne : Nat} {k : Int} {t : Tok} {o : Obj} {kvs : List (Str × Value)} {x : Option Value} {p : Value} {κ : Nat} {r : List Nat} {due : Bool} : (e, instObj 167 de) ∈ news → (de, dictOf ee ne) ∈ news → getL "number" ee = some (some (.int k t)) → 0 < k → getL "parent" ee = some (some p) → getL "frame" ee = some (some (.ref fb)) →
      (fb, o) ∈ news → o.IsDictOf (strKind PySem.Challenge.rw_pq1410_01.row.prog w) kvs → (fb == sysModules) = false → valueAt kvs nm = x → Cell news x κ → Chain w nm news p (some (r, due)) → Chain w nm news (.ref e) (some (κ :: r, due))
def stops : Nat → Bool
  | 2 => true
  | 3 => true
  | 4 => true
  | 5 => true
  | 7 => true
  | _ => false
def goUp : List Nat → Bool → Bool
  | [], due => due
  | κ :: r, due => match stops κ with
    | true => false
    | false => goUp r due
def res : Option (List Nat × Bool) → Bool
  | none => false
  | some (l, due) => goUp l due
def csize : Option (List Nat × Bool) → Nat
  | none => 0
  | some (l, _) => l.length + 1

local macro_rules | `(tactic| ktr_room) => `(tactic| exact room (by with_reducible assumption) rfl)
local macro_rules | `(tactic| ktr_units) => `(tactic| exact room (by with_reducible assumption) rfl)
local macro_rules | `(tactic| walk_at "getMethod ref") => `(tactic| (k_here; (with_reducible show wpAny _ _ (getMethod (Value.ref _) (Str.ofString "get") _) _ _ _); k_dflt (refine kdg_method (knd := PySem.strKind _ _) (by k_asm) (by k_mem) (by k_asm) ?_)))
local macro_rules | `(tactic| walk_at "call builtin:dict.get") => `(tactic| (k_here; k_dflt (refine kdg_get1 (knd := PySem.strKind _ _) (by k_asm) (by k_mem) (by k_asm) (by k_asm) (strKind_is _ _ _ _) _ (by assumption) ?_); (try dsimp only [Option.getD])))

local macro_rules | `(tactic| walk_at "call ref") => `(tactic| (k_here; (show wpAny _ _ (call (Value.ref 199) [Value.ref _]) _ _ _); k_dflt (refine' isfn ?k1 ?k2 ?k3 ?k4 ?k5 ?kK ?kd ?ku ?hC ?m1 ?m2 ?g1 ?_; (case k1 => k_asm); (case k2 => k_asm); (case k3 => k_asm); (case k4 => k_asm); (case k5 => k_asm); (case kK => exact rfl); (case m1 => k_mem); (case m2 => k_mem); (case g1 => assumption); (case hC => first | exact .inl rfl | exact .inr (.inl rfl) | exact .inr (.inr rfl)); (case kd => ktr_room); (case ku => ktr_units); intro h' tk' F' N')))
local macro_rules | `(tactic| walk_at "call ref") => `(tactic| (k_here; (show wpAny _ _ (call (Value.ref 213) [Value.ref _, Value.str _ _]) _ _ _); k_dflt (first
  | (refine' isor1 ?k1 ?k2 ?k3 ?k4 ?k5 ?kK ?kd ?ku ?m1 ?m2 ?g1 ?g2 ?g3 ?_; (case k1 => k_asm); (case k2 => k_asm); (case k3 => k_asm); (case k4 => k_asm); (case k5 => k_asm); (case kK => exact rfl); (case m1 => k_mem); (case m2 => k_mem); (case g1 => assumption); (case g2 => assumption); (case g3 => assumption); (case kd => ktr_room); (case ku => ktr_units); intro h' tk' F' N')
  | (refine' isorC ?k1 ?k2 ?k3 ?k4 ?k5 ?kK ?kd ?ku ?m1 ?m2 ?g1 ?_; (case k1 => k_asm); (case k2 => k_asm); (case k3 => k_asm); (case k4 => k_asm); (case k5 => k_asm); (case kK => exact rfl); (case m1 => k_mem); (case m2 => k_mem); (case g1 => assumption); (case kd => ktr_room); (case ku => ktr_units); intro h' tk' F' N'))))
local macro_rules | `(tactic| k_sub) => `(tactic| (repeat' (first | exact sub0 | refine sub1 ?_)))
local macro_rules | `(tactic| kwd_rel) => `(tactic| first | assumption | exact Chain.stop)
local macro_rules | `(tactic| kwd_inv) => `(tactic| (with_unfolding_all assumption))
local macro_rules | `(tactic| kwd_less) => `(tactic| (simp only [csize, List.length_cons, List.length_nil]; omega))
local macro_rules | `(tactic| walk_at "exec While Compare cons nil") => `(tactic| (k_here; (rename Fr _ _ _ _ => lF'); (rename News _ _ _ _ => lN'); (with_unfolding_all refine' kwd_while0 (Rel := Chain _ _) (y := Str.ofString "env") [Str.ofString "found"] csize (fun d₀ d => res d = res d₀) lF' lN' (by rfl) (by assumption) rfl (fun v' d' u' h' tk' hR' hI' F' N' => ?_)); clear lF' lN'; (cases hR' <;> (first | ((rename Cell _ _ _ => hC); cases hC) | ((rename BaseCell _ _ _ _ => hC); cases hC) | skip))))
theorem mb1 : ∀ {w : World} {dp un : Nat} {gd : Option (List Code)} {cn : Str} {cs : Scope} {a : Addr} {ccd : Value} {cl : List (Str × Addr)} {outer : List Env} {A₀ : Around} {base h₀ : Heap} {L : Addr} {m : Str → Option Value} {s : Shared} {Q E : Value → Shared → Prop}
    {mean : ExcName → Option Value} {mg mb : Str → Option Value} {ip dip eb deb : Addr} {ei eb' : List DictEntry} {ni nb : Nat} {nm : Str} {t tb : Tok} {v : Value} {d : Option (List Nat × Bool)} {news : List (Addr × Obj)}
    (B : Below A₀ base outer h₀) (F : Fr h₀ L s.heap m) (X : (hd.heap_39 w.params).In h₀) (N : News h₀ L s.heap news)
    (T : Top q (looseW q []) mean mg mb h₀) (hk : cs.kind = .function) (hd : dp + 30 < recursionLimit) (hu : un + 300 < cLine)
    (i1 : (ip, instObj 419 dip) ∈ news) (i2 : (dip, dictOf ei ni) ∈ news) (i3 : getL "base" ei = some (some (.ref eb))) (b1 : (eb, instObj 167 deb) ∈ news) (b2 : (deb, dictOf eb' nb) ∈ news) (b3 : getL "number" eb' = some (some (.int 0 tb)))
    (hc : Chain w nm news v d)
    (hQ : ∀ (h' : Heap) (tk' : Nat), Fr h₀ L h' m → News h₀ L h' news → Q (.bool (res d)) { s with heap := h', toks := tk' }),
    wpAny (model PySem.Challenge.rw_pq1410_01.row.prog w) (ktrTop dp un gd cn cs L a ccd cl outer) (call (.ref 206) [.ref ip, .str nm t, v]) Q E s := by
  k_fill
  w_top off
  intro w dp un gd cn cs a ccd cl outer A₀ base h₀ L m s Q E mean mg mb ip dip eb deb ei eb' ni nb nm t tb v d news B F X N T hk hd hu i1 i2 i3 b1 b2 b3 hc hQ
  refine wpAny_call ?_
  k_dflt ktr_enter
  k_steps
  all_goals (
    rename (res _ = res _) => hI9
    rename Fr h₀ L _ m => eF
    rename News h₀ L _ _ => eN
    refine retB hQ ?_ eF eN ?_
    (first | exact hI9 | exact Eq.trans (beq_eq_false_iff_ne.mpr (by omega)) hI9)
    (repeat' (first | exact sub0 | refine sub1 ?_)))
end
local macro_rules | `(tactic| ktr_room) => `(tactic| exact room (by with_reducible assumption) rfl)
local macro_rules | `(tactic| ktr_units) => `(tactic| exact room (by with_reducible assumption) rfl)
local macro_rules | `(tactic| walk_at "getMethod ref") => `(tactic| (k_here; (with_reducible show wpAny _ _ (getMethod (Value.ref _) (Str.ofString "get") _) _ _ _); k_dflt (refine kdg_method (knd := PySem.strKind _ _) (by k_asm) (by k_mem) (by k_asm) ?_)))
local macro_rules | `(tactic| walk_at "call builtin:dict.get") => `(tactic| (k_here; k_dflt (refine kdg_get1 (knd := PySem.strKind _ _) (by k_asm) (by k_mem) (by k_asm) (by k_asm) (strKind_is _ _ _ _) _ (by assumption) ?_); (try dsimp only [Option.getD])))
section


theorem allLt_ne {d : Addr} {l : List (Addr × Obj)} (h : AllLt d l) : ∀ p ∈ l, p.1 ≠ d := fun p hp => Nat.ne_of_lt (tb_ltOf h p hp)
theorem newsSub {h₀ h : Heap} {L : Addr} {news news' : List (Addr × Obj)} (N : News h₀ L h news) (hs : ∀ p ∈ news', p ∈ news) : News h₀ L h news' := fun p hp => N p (hs p hp)
theorem perm5 {a b c d e : Addr × Obj} {l : List (Addr × Obj)} : ∀ p ∈ b :: e :: c :: d :: l, p ∈ a :: b :: c :: d :: e :: l := by
  intro p hp
  simp only [List.mem_cons] at hp ⊢
  rcases hp with h | h | h | h | h <;> simp [h]
theorem isSome_of {k : Str} {es : List DictEntry} {x : Option Value} (h : getL k es = some x) : (getL k es).isSome = true := by rw [h]; rfl
theorem putLen {k : Str} {hsh : Int} {key v : Value} {es : List DictEntry} (h : es.length ≤ 100) : (putL k hsh key v es).length ≤ 1000 := Nat.le_trans putL_len (by omega)
local macro_rules | `(tactic| walk_at "setAttr ref") => `(tactic| (k_here; k_dflt (refine' set_dict ?k1 ?k2 ?k3 ?k4 ?k5 ?k6 ?k7 ?k8 ?k9 ?k10 ?k11 ?k12 ?k13 ?_; (case k1 => k_asm); (case k2 => k_asm); (case k3 => k_asm); (case k4 => k_inst); (case k5 => exact rfl); (case k6 => k_is); (case k7 => k_is); (case k8 => k_is); (case k9 => k_is); (case k10 => exact isSome_of (by assumption)); (case k11 => exact rfl); (case k12 => k_upd); (case k13 => exact putLen (by assumption)); k_whole; intro h' F' N'; (try k_sweep))))
local macro_rules | `(tactic| k_lt $h) => `(tactic| (replace $h := allLt_of $h; (try simp only [AllLt, and_true] at $h:ident); repeat (have hA := And.left $h; replace $h := And.right $h)))
local macro_rules | `(tactic| k_all) => `(tactic| first | assumption | exact allLt_ne (by assumption))

theorem ne1 : ∀ {w : World} {dp un : Nat} {gd : Option (List Code)} {cn : Str} {cs : Scope} {a : Addr} {ccd : Value} {cl : List (Str × Addr)} {outer : List Env} {A₀ : Around} {base h₀ : Heap} {L : Addr} {m : Str → Option Value} {s : Shared} {Q E : Value → Shared → Prop}
    {mean : ExcName → Option Value} {mg mb : Str → Option Value} {ip dip : Addr} {es : List DictEntry} {n : Nat} {k : Int} {t : Tok} {v : Value} {rest : List (Addr × Obj)}
    (B : Below A₀ base outer h₀) (F : Fr h₀ L s.heap m) (X : (hd.heap_39 w.params).In h₀) (N : News h₀ L s.heap ((dip, dictOf es n) :: rest))
    (T : Top q (looseW q []) mean mg mb h₀) (hk : cs.kind = .function) (hd : dp + 10 < recursionLimit) (hu : un + 100 < cLine)
    (i1 : (ip, instObj 419 dip) ∈ rest) (g : getL "next_number" es = some (some (.int k t))) (hk0 : 0 ≤ k) (hk1 : k ≤ 1000) (hlen : es.length ≤ 100) (hr : ∀ p ∈ rest, p.1 ≠ dip)
    (hv : v = .none ∨ ∃ pa, v = .ref pa)
    (hQ : ∀ (e de fe : Addr) (esE es' : List DictEntry) (nE n' : Nat) (oF : Obj) (t2 : Tok) (h' : Heap) (tk' : Nat), Fr h₀ L h' m → News h₀ L h' ((fe, oF) :: (dip, dictOf es' n') :: (e, instObj 167 de) :: (de, dictOf esE nE) :: rest) →
      oF.IsDictOf (strKind PySem.Challenge.rw_pq1410_01.row.prog w) [] → (fe == sysModules) = false → AllLt de rest → @LT.lt Nat _ dip de → @LT.lt Nat _ de e → @LT.lt Nat _ e fe →
      getL "number" esE = some (some (.int k t)) → getL "parent" esE = some (some v) → getL "frame" esE = some (some (.ref fe)) →
      (∀ key x, (Str.ofString "next_number" == key) = false → getL key es = some x → getL key es' = some x) → getL "next_number" es' = some (some (.int (k + 1) t2)) → es'.length ≤ es.length + 1 → Q (.ref e) { s with heap := h', toks := tk' }),
    wpAny (model PySem.Challenge.rw_pq1410_01.row.prog w) (ktrTop dp un gd cn cs L a ccd cl outer) (call (.ref 235) [.ref ip, v]) Q E s := by
  k_fill
  w_top off
  intro w dp un gd cn cs a ccd cl outer A₀ base h₀ L m s Q E mean mg mb ip dip es n k t v rest B F X N T hk hd hu i1 g hk0 hk1 hlen hr hv hQ
  refine wpAny_call ?_
  k_dflt ktr_enter
  k_steps
  rename Fr h₀ L _ m => eF
  rename News h₀ L _ _ => eN
  refine' hQ _ _ _ _ _ _ _ _ _ _ _ eF (newsSub eN perm5) (by assumption) (by assumption) (by assumption) (by omega) (by omega) (by omega) (by rfl) (by rfl) (by rfl) (fun key x hk hx => getL_put_ne hk hx) getL_put_eq putL_len
end
local macro_rules | `(tactic| walk_at "setAttr ref") => `(tactic| (k_here; k_dflt (refine' set_dict ?k1 ?k2 ?k3 ?k4 ?k5 ?k6 ?k7 ?k8 ?k9 ?k10 ?k11 ?k12 ?k13 ?_; (case k1 => k_asm); (case k2 => k_asm); (case k3 => k_asm); (case k4 => k_inst); (case k5 => exact rfl); (case k6 => k_is); (case k7 => k_is); (case k8 => k_is); (case k9 => k_is); (case k10 => exact isSome_of (by assumption)); (case k11 => exact rfl); (case k12 => k_upd); (case k13 => exact putLen (by assumption)); k_whole; intro h' F' N'; (try k_sweep))))
local macro_rules | `(tactic| k_lt $h) => `(tactic| (replace $h := allLt_of $h; (try simp only [AllLt, and_true] at $h:ident); repeat (have hA := And.left $h; replace $h := And.right $h)))
local macro_rules | `(tactic| k_all) => `(tactic| first | assumption | exact allLt_ne (by assumption))
section
local macro_rules | `(tactic| walk_at "pad 0") => `(tactic| skip)

def lawDef : Stmt := PySem.Challenge.pw_pq1410_01.main.body.getD 21 (.Pass default)
def lawBody : List Stmt := match lawDef with
  | .FunctionDef _ _ b .. => b
  | _ => []
def lawScope : Scope := match lawDef with
  | .FunctionDef _ _ _ _ _ _ sc .. => sc
  | _ => default
def forBody : List Stmt := match lawBody.getD 14 (.Pass default) with
  | .For _ _ b .. => b
  | _ => []
/-- the source: the ints that are left and two ints -/
def TakeOk (l0 : Addr) (so lo : Obj) : Prop := ∃ (vs : List Value) (ns : List Int) (n0 n1 : Nat) (ia ib : Int) (ta tb : Tok), so = listOf #[.ref l0, .int ia ta, .int ib tb] n1 ∧ lo = listOf vs.toArray n0 ∧ IntsAre vs ns ∧ ns.length ≤ 63 ∧ 0 ≤ ia ∧ 0 ≤ ib ∧ ib < 2147483563
theorem map_of {m : Str → Option Value} {ps : List (Str × Value)} (h : ∀ p ∈ ps, m p.1 = some p.2) : m = kstB m ps := by
  funext z
  exact (kstB_eq h fun _ => rfl).symm

local macro_rules | `(tactic| k_enter) => `(tactic| (refine' code_def ?k1 ?k2 ?k3 ?k4 ?k5 ?kA ?kF ?kK ?k6 ?k7 ?k8 ?k9 ?kB ?_ ?c2 ?c3 ?c4 ?c5; (case kA => exact rfl); (case kF => exact rfl); (case kK => assumption); (case k1 => k_asm); (case k2 => k_asm); (case k3 => k_asm); (case k4 => k_asm); (case k5 => k_asm); (case k6 => k_is); (case k7 => k_is); (case k8 => ktr_room); (case k9 => first | exact BindsTo.of_eq rfl | exact binds_K (by k_in) rfl (by k_is) rfl rfl rfl); (case c5 => decide); (case kB => exact locs rfl); (case c2 => exact rfl); (case c3 => exact rfl); (case c4 => exact rfl); k_whole; intro g' L' h' FG' F' N' B' X' T'; (try dsimp only); (try k_fold)))

theorem mkVec : ∀ {w : World} {dp un : Nat} {gd : Option (List Code)} {cn : Str} {cs : Scope} {a : Addr} {ccd : Value} {cl : List (Str × Addr)} {outer : List Env} {A₀ : Around} {base h₀ : Heap} {L : Addr} {m : Str → Option Value} {s : Shared} {Q E : Value → Shared → Prop}
    {mean : ExcName → Option Value} {mg mb : Str → Option Value} {news : List (Addr × Obj)} {it : Value} {kd : Str} {tk : Tok}
    (B : Below A₀ base outer h₀) (F : Fr h₀ L s.heap m) (X : (hd.heap_39 w.params).In h₀) (N : News h₀ L s.heap news)
    (T : Top q (looseW q []) mean mg mb h₀) (hk : cs.kind = .function) (hd : dp + 30 < recursionLimit) (hu : un + 300 < cLine)
    (hQ : ∀ (x dx : Addr) (es : List DictEntry) (n : Nat) (h' : Heap) (tk' : Nat), Fr h₀ L h' m → News h₀ L h' ((x, instObj 81 dx) :: (dx, dictOf es n) :: news) → (∀ p ∈ news, p.1 < dx) → @LT.lt Nat _ dx x → es.length ≤ 50 → getL "kind" es = some (some (.str kd tk)) → Q (.ref x) { s with heap := h', toks := tk' }),
    wpAny (model PySem.Challenge.rw_pq1410_01.row.prog w) (ktrTop dp un gd cn cs L a ccd cl outer) (call (.ref 81) [.str kd tk, it]) Q E s := by
  k_fill
  w_top off
  intro w dp un gd cn cs a ccd cl outer A₀ base h₀ L m s Q E mean mg mb news it kd tk B F X N T hk hd hu hQ
  
  all_goals k_steps
  all_goals (
    rename Fr h₀ L _ m => eF
    rename News h₀ L _ _ => eN
    refine' hQ _ _ _ _ _ _ eF eN (fun p hp => tb_ltOf (by assumption) p hp) (by omega) (Nat.le_of_ble_eq_true rfl) (by rfl))

theorem mkMissing : ∀ {w : World} {dp un : Nat} {gd : Option (List Code)} {cn : Str} {cs : Scope} {a : Addr} {ccd : Value} {cl : List (Str × Addr)} {outer : List Env} {A₀ : Around} {base h₀ : Heap} {L : Addr} {m : Str → Option Value} {s : Shared} {Q E : Value → Shared → Prop}
    {mean : ExcName → Option Value} {mg mb : Str → Option Value} {news : List (Addr × Obj)} 
    (B : Below A₀ base outer h₀) (F : Fr h₀ L s.heap m) (X : (hd.heap_39 w.params).In h₀) (N : News h₀ L s.heap news)
    (T : Top q (looseW q []) mean mg mb h₀) (hk : cs.kind = .function) (hd : dp + 30 < recursionLimit) (hu : un + 300 < cLine)
    (hQ : ∀ (x dx : Addr) (es : List DictEntry) (n : Nat) (h' : Heap) (tk' : Nat) (u : Tok), Fr h₀ L h' m → News h₀ L h' ((x, instObj 52 dx) :: (dx, dictOf es n) :: news) → (∀ p ∈ news, p.1 < dx) → @LT.lt Nat _ dx x → es.length ≤ 50 → getL "kind" es = some (some (.str (Str.ofString "missing") u)) → Q (.ref x) { s with heap := h', toks := tk' }),
    wpAny (model PySem.Challenge.rw_pq1410_01.row.prog w) (ktrTop dp un gd cn cs L a ccd cl outer) (call (.ref 52) []) Q E s := by
  k_fill
  w_top off
  intro w dp un gd cn cs a ccd cl outer A₀ base h₀ L m s Q E mean mg mb news  B F X N T hk hd hu hQ
  
  all_goals k_steps
  all_goals (
    rename Fr h₀ L _ m => eF
    rename News h₀ L _ _ => eN
    refine' hQ _ _ _ _ _ _ _ eF eN (fun p hp => tb_ltOf (by assumption) p hp) (by omega) (Nat.le_of_ble_eq_true rfl) (by rfl))

theorem mkSym : ∀ {w : World} {dp un : Nat} {gd : Option (List Code)} {cn : Str} {cs : Scope} {a : Addr} {ccd : Value} {cl : List (Str × Addr)} {outer : List Env} {A₀ : Around} {base h₀ : Heap} {L : Addr} {m : Str → Option Value} {s : Shared} {Q E : Value → Shared → Prop}
    {mean : ExcName → Option Value} {mg mb : Str → Option Value} {news : List (Addr × Obj)} {nm : Str} {tn : Tok}
    (B : Below A₀ base outer h₀) (F : Fr h₀ L s.heap m) (X : (hd.heap_39 w.params).In h₀) (N : News h₀ L s.heap news)
    (T : Top q (looseW q []) mean mg mb h₀) (hk : cs.kind = .function) (hd : dp + 30 < recursionLimit) (hu : un + 300 < cLine)
    (hQ : ∀ (x dx : Addr) (es : List DictEntry) (n : Nat) (h' : Heap) (tk' : Nat) (u : Tok), Fr h₀ L h' m → News h₀ L h' ((x, instObj 102 dx) :: (dx, dictOf es n) :: news) → (∀ p ∈ news, p.1 < dx) → @LT.lt Nat _ dx x → es.length ≤ 50 → getL "kind" es = some (some (.str (Str.ofString "symbol") u)) → Q (.ref x) { s with heap := h', toks := tk' }),
    wpAny (model PySem.Challenge.rw_pq1410_01.row.prog w) (ktrTop dp un gd cn cs L a ccd cl outer) (call (.ref 102) [.str nm tn]) Q E s := by
  k_fill
  w_top off
  intro w dp un gd cn cs a ccd cl outer A₀ base h₀ L m s Q E mean mg mb news nm tn B F X N T hk hd hu hQ
  
  all_goals k_steps
  all_goals (
    rename Fr h₀ L _ m => eF
    rename News h₀ L _ _ => eN
    refine' hQ _ _ _ _ _ _ _ eF eN (fun p hp => tb_ltOf (by assumption) p hp) (by omega) (Nat.le_of_ble_eq_true rfl) (by rfl))

theorem mkClo : ∀ {w : World} {dp un : Nat} {gd : Option (List Code)} {cn : Str} {cs : Scope} {a : Addr} {ccd : Value} {cl : List (Str × Addr)} {outer : List Env} {A₀ : Around} {base h₀ : Heap} {L : Addr} {m : Str → Option Value} {s : Shared} {Q E : Value → Shared → Prop}
    {mean : ExcName → Option Value} {mg mb : Str → Option Value} {news : List (Addr × Obj)} {v1 v2 v3 : Value}
    (B : Below A₀ base outer h₀) (F : Fr h₀ L s.heap m) (X : (hd.heap_39 w.params).In h₀) (N : News h₀ L s.heap news)
    (T : Top q (looseW q []) mean mg mb h₀) (hk : cs.kind = .function) (hd : dp + 30 < recursionLimit) (hu : un + 300 < cLine)
    (hQ : ∀ (x dx : Addr) (es : List DictEntry) (n : Nat) (h' : Heap) (tk' : Nat) (u : Tok), Fr h₀ L h' m → News h₀ L h' ((x, instObj 124 dx) :: (dx, dictOf es n) :: news) → (∀ p ∈ news, p.1 < dx) → @LT.lt Nat _ dx x → es.length ≤ 50 → getL "kind" es = some (some (.str (Str.ofString "closure") u)) → Q (.ref x) { s with heap := h', toks := tk' }),
    wpAny (model PySem.Challenge.rw_pq1410_01.row.prog w) (ktrTop dp un gd cn cs L a ccd cl outer) (call (.ref 124) [v1, v2, v3]) Q E s := by
  k_fill
  w_top off
  intro w dp un gd cn cs a ccd cl outer A₀ base h₀ L m s Q E mean mg mb news v1 v2 v3 B F X N T hk hd hu hQ
  
  all_goals k_steps
  all_goals (
    rename Fr h₀ L _ m => eF
    rename News h₀ L _ _ => eN
    refine' hQ _ _ _ _ _ _ _ eF eN (fun p hp => tb_ltOf (by assumption) p hp) (by omega) (Nat.le_of_ble_eq_true rfl) (by rfl))

theorem mkProm : ∀ {w : World} {dp un : Nat} {gd : Option (List Code)} {cn : Str} {cs : Scope} {a : Addr} {ccd : Value} {cl : List (Str × Addr)} {outer : List Env} {A₀ : Around} {base h₀ : Heap} {L : Addr} {m : Str → Option Value} {s : Shared} {Q E : Value → Shared → Prop}
    {mean : ExcName → Option Value} {mg mb : Str → Option Value} {news : List (Addr × Obj)} {v1 v2 : Value}
    (B : Below A₀ base outer h₀) (F : Fr h₀ L s.heap m) (X : (hd.heap_39 w.params).In h₀) (N : News h₀ L s.heap news)
    (T : Top q (looseW q []) mean mg mb h₀) (hk : cs.kind = .function) (hd : dp + 30 < recursionLimit) (hu : un + 300 < cLine)
    (hQ : ∀ (x dx : Addr) (es : List DictEntry) (n : Nat) (h' : Heap) (tk' : Nat) (u u2 : Tok), Fr h₀ L h' m → News h₀ L h' ((x, instObj 188 dx) :: (dx, dictOf es n) :: news) → (∀ p ∈ news, p.1 < dx) → @LT.lt Nat _ dx x → es.length ≤ 50 → getL "kind" es = some (some (.str (Str.ofString "promise") u)) → getL "expr" es = some (some (v1)) → getL "value" es = some (some (.none)) → getL "state" es = some (some (.int 0 u2)) → Q (.ref x) { s with heap := h', toks := tk' }),
    wpAny (model PySem.Challenge.rw_pq1410_01.row.prog w) (ktrTop dp un gd cn cs L a ccd cl outer) (call (.ref 188) [v1, v2]) Q E s := by
  k_fill
  w_top off
  intro w dp un gd cn cs a ccd cl outer A₀ base h₀ L m s Q E mean mg mb news v1 v2 B F X N T hk hd hu hQ
  
  all_goals k_steps
  all_goals (
    rename Fr h₀ L _ m => eF
    rename News h₀ L _ _ => eN
    refine' hQ _ _ _ _ _ _ _ _ eF eN (fun p hp => tb_ltOf (by assumption) p hp) (by omega) (Nat.le_of_ble_eq_true rfl) (by rfl) (by rfl) (by rfl) (by rfl))

theorem mkBlt : ∀ {w : World} {dp un : Nat} {gd : Option (List Code)} {cn : Str} {cs : Scope} {a : Addr} {ccd : Value} {cl : List (Str × Addr)} {outer : List Env} {A₀ : Around} {base h₀ : Heap} {L : Addr} {m : Str → Option Value} {s : Shared} {Q E : Value → Shared → Prop}
    {mean : ExcName → Option Value} {mg mb : Str → Option Value} {news : List (Addr × Obj)} {nm γ : Str} {b : Bool} {fv : Value} {tn tg : Tok}
    (B : Below A₀ base outer h₀) (F : Fr h₀ L s.heap m) (X : (hd.heap_39 w.params).In h₀) (N : News h₀ L s.heap news)
    (T : Top q (looseW q []) mean mg mb h₀) (hk : cs.kind = .function) (hd : dp + 30 < recursionLimit) (hu : un + 300 < cLine)
    (hQ : ∀ (x dx : Addr) (es : List DictEntry) (n : Nat) (h' : Heap) (tk' : Nat) (u : Tok), Fr h₀ L h' m → News h₀ L h' ((x, instObj 145 dx) :: (dx, dictOf es n) :: news) → (∀ p ∈ news, p.1 < dx) → @LT.lt Nat _ dx x → es.length ≤ 50 → getL "kind" es = some (some (.str (if b then Str.ofString "special" else Str.ofString "builtin") u)) → getL "name" es = some (some (.str nm tn)) → getL "special" es = some (some (.bool b)) → getL "group" es = some (some (.str γ tg)) → Q (.ref x) { s with heap := h', toks := tk' }),
    wpAny (model PySem.Challenge.rw_pq1410_01.row.prog w) (ktrTop dp un gd cn cs L a ccd cl outer) (call (.ref 145) [.str nm tn, .bool b, fv, .str γ tg]) Q E s := by
  k_fill
  w_top off
  intro w dp un gd cn cs a ccd cl outer A₀ base h₀ L m s Q E mean mg mb news nm γ b fv tn tg B F X N T hk hd hu hQ
  cases b
  all_goals k_steps
  all_goals (
    rename Fr h₀ L _ m => eF
    rename News h₀ L _ _ => eN
    refine' hQ _ _ _ _ _ _ _ eF eN (fun p hp => tb_ltOf (by assumption) p hp) (by omega) (Nat.le_of_ble_eq_true rfl) (by rfl) (by rfl) (by rfl) (by rfl))
end
section
theorem range_inv {prog : Program} {w : World} {A : Around} {E : Value → Shared → Prop} {s : Shared} {env : Env} {h₀ : Heap} {x : Str} {body : List Stmt} {Q : Flow → Shared → Prop}
    {r : Addr} {a₀ b₀ : Int} {t₀ u₀ v₀ : Tok} {n : Nat} {m₀ : Str → Option Value} {news : List (Addr × Obj)} (J : Nat → (Str → Option Value) → List (Addr × Obj) → Prop)
    (hh : A.handled = none) (hr : IsRange s.heap r a₀ b₀ 1 t₀ u₀ v₀) (hsmall : Builtin.Range.small a₀ b₀ 1 = true) (hn : Builtin.Range.rangeSize a₀ b₀ 1 = (n : Int)) (F : Fr h₀ env.locals s.heap m₀) (N : News h₀ env.locals s.heap news) (hj : J 0 m₀ news)
    (turn : ∀ (i : Nat) (t : Tok) (m₁ : Str → Option Value) (nx : List (Addr × Obj)) (h : Heap) (tk : Nat) (own : List (Addr × Obj)), i < n → (∀ p ∈ own, ∀ q ∈ nx, p.1 ≠ q.1) → J i m₁ nx → Fr h₀ env.locals h (fun y => if y = x then some (.int (a₀ + (i : Int)) t) else m₁ y) → News h₀ env.locals h (nx ++ own) →
      wpAny (model prog w) A (execs body env) (InvPostG h₀ env.locals (J (i + 1)) own { s with heap := h, toks := tk } Q) E { s with heap := h, toks := tk })
    (done : ∀ (m₁ : Str → Option Value) (nx : List (Addr × Obj)) (h : Heap) (tk : Nat), J n m₁ nx → Fr h₀ env.locals h m₁ → News h₀ env.locals h nx → Q .next { s with heap := h, toks := tk }) :
    wpAny (model prog w) A (pyIter (.ref r)) (fun it s₂ => LoopAtV prog w A h₀ env x body Q E it s₂) E s := by
  refine wpAny_pyIter_range hr hsmall ?_
  have W : Walks prog w A s.heap.objs.size [s.heap.objs.size] [s.heap.objs.size] n (fun i v => i < n ∧ ∃ t, v = .int (a₀ + i * 1) t)
      (fun i h => IsRangeIter h s.heap.objs.size (a₀ + (i : Nat) * 1) ((n : Int) - (i : Nat)) 1) := (Walks.range hh _ a₀ 1 n).bound
  refine ⟨_, _, _, n, _, _, m₀, news, J, rfl, W, ?_, ?_, ?_, (by show IsRangeIter _ _ _ _ _; rw [hn]; simpa using Heap.get?_push_size _ rfl), F.push _, (fun p hp => ⟨Heap.get?_push_of_some _ (N p hp).1, (N p hp).2⟩), hj, ?_, ?_⟩
  · intro hm
    exact absurd F.ns.lt ((List.mem_singleton.mp hm) ▸ Nat.lt_irrefl _)
  · intro b hb
    rw [List.mem_singleton.mp hb]
    exact next_is_new F
  · intro p hp hI
    exact absurd (Heap.lt_size (N p hp).1) ((List.mem_singleton.mp hI) ▸ Nat.lt_irrefl _)
  · rintro i v m₁ news₁ s₁ own ⟨hh', tk', rfl⟩ hin ⟨_, t, rfl⟩ hJ hoff hown _ hfp hst F₁ N₁
    have e1 : a₀ + (i : Int) * 1 = a₀ + (i : Int) := by omega
    rw [e1] at F₁
    have hsep : ∀ p ∈ own, ∀ q ∈ news₁, p.1 ≠ q.1 := by
      intro p hp q hq e
      exact hoff q hq (by rw [← e]; exact hown p hp)
    have N₂ : News h₀ env.locals hh' (news₁ ++ own) := fun p hp => N₁ p ((List.mem_append.mp hp).elim (fun h => List.mem_append.mpr (.inr h)) fun h => List.mem_append.mpr (.inl h))
    obtain ⟨oI, hoI⟩ : ∃ o, (s.heap.objs.size, o) ∈ own := by
      cases hq : hh'.get? s.heap.objs.size with
      | some o => exact ⟨o, hfp _ (.head _) (next_is_new F) o hq⟩
      | none => exact absurd hst (by intro h; have := h.symm.trans hq; cases this)
    refine wpAny_mono (turn i t m₁ news₁ hh' tk' own hin hsep hJ F₁ N₂) (fun f s₂ p => ?_) fun _ _ e => e
    have fin : InvEndG h₀ env.locals (J (i + 1)) own { s with heap := hh', toks := tk' } s₂ → LoopStepU h₀ env.locals [s.heap.objs.size] own (J (i + 1)) { s with heap := hh', toks := tk' } .next s₂ := by
      rintro ⟨h', tk, m', news', nx, e, F', N', hn, ho, ha, hm⟩
      refine ⟨rfl, h', tk, m', nx, e, F', fun p hp => N' p ((List.mem_append.mp hp).elim (ho p) (hn p)), fun p hp hq => ?_, hm⟩
      exact ha _ hoI p.1 (List.mem_map.mpr ⟨p, hp, rfl⟩) (List.mem_singleton.mp hq).symm
    cases f with
    | ret v => exact .ret p
    | brk => exact .brk p
    | next => exact .next (fin p)
    | cont => exact .cont (fin p)
  · rintro h' tk m' news' F' N' _ hJ
    exact done m' news' h' tk hJ F' N'
theorem upd_mem {d : Addr} {o o' : Obj} {l l' : List (Addr × Obj)} (U : Upd d o o' l l') {p : Addr × Obj} (hp : p ∈ l') : p = (d, o') ∨ (p ∈ l ∧ p.1 ≠ d) := by
  obtain ⟨pre, post, rfl, rfl, a, b⟩ := U.split
  rcases List.mem_append.mp hp with h | h
  · exact .inr ⟨List.mem_append_left _ h, a p h⟩
  · rcases List.mem_cons.mp h with h | h
    · exact .inl h
    · exact .inr ⟨List.mem_append_right _ (.tail _ h), b p h⟩
theorem upd_in {d : Addr} {o o' : Obj} {l l' : List (Addr × Obj)} (U : Upd d o o' l l') : (d, o) ∈ l := by
  obtain ⟨pre, post, rfl, rfl, a, b⟩ := U.split
  exact List.mem_append_right _ (.head _)
theorem upd_off {d : Addr} {o o' : Obj} {l l' : List (Addr × Obj)} (U : Upd d o o' l l') {p : Addr × Obj} (hp : p ∈ l) (hd : p.1 ≠ d) : p ∈ l' := by
  obtain ⟨pre, post, rfl, rfl, a, b⟩ := U.split
  rcases List.mem_append.mp hp with h | h
  · exact List.mem_append_left _ h
  · rcases List.mem_cons.mp h with rfl | h
    · exact absurd rfl hd
    · exact List.mem_append_right _ (.tail _ h)
/-- the others of a ledger -/
def off2 (news : List (Addr × Obj)) (a b : Addr) : List (Addr × Obj) := news.filter fun p => p.1 != a && p.1 != b
theorem off2_a {news : List (Addr × Obj)} {a b : Addr} : ∀ p ∈ off2 news a b, p.1 ≠ a := fun p hp => by
  have := (List.mem_filter.mp hp).2
  simp at this
  exact this.1
theorem off2_b {news : List (Addr × Obj)} {a b : Addr} : ∀ p ∈ off2 news a b, p.1 ≠ b := fun p hp => by
  have := (List.mem_filter.mp hp).2
  simp at this
  exact this.2
theorem off2_mem {news : List (Addr × Obj)} {a b : Addr} {p : Addr × Obj} (h : p ∈ news) (ha : p.1 ≠ a) (hb : p.1 ≠ b) : p ∈ off2 news a b := List.mem_filter.mpr ⟨h, by simp [ha, hb]⟩
end
section
local macro_rules | `(tactic| walk_at "pad 0") => `(tactic| skip)
local macro_rules | `(tactic| walk_at "CompEnd") => `(tactic| ((refine' LCg.CompEnd.intro ?F ?N _ ?sub ?off ?hS ?_; (case F => k_asm); (case N => k_asm); (case off => assumption); (case sub => (repeat' (first | exact sub0 | refine sub1 ?_))); (case hS => exact Or.inr ⟨_, by k_mem, rfl, _, rfl⟩)); (try dsimp only [List.nil_append, List.cons_append])))

theorem ints_short {vs : List Value} {ns : List Int} (h : IntsAre vs ns) (hl : ns.length ≤ 3) : (vs = [] ∧ ns = []) ∨ (∃ k1 t1, vs = [.int k1 t1] ∧ ns = [k1]) ∨ (∃ k1 t1 k2 t2, vs = [.int k1 t1, .int k2 t2] ∧ ns = [k1, k2]) ∨ (∃ k1 t1 k2 t2 k3 t3, vs = [.int k1 t1, .int k2 t2, .int k3 t3] ∧ ns = [k1, k2, k3]) := by
  cases h with
  | nil => exact .inl ⟨rfl, rfl⟩
  | cons k1 t1 h => cases h with
    | nil => exact .inr (.inl ⟨_, _, rfl, rfl⟩)
    | cons k2 t2 h => cases h with
      | nil => exact .inr (.inr (.inl ⟨_, _, _, _, rfl, rfl⟩))
      | cons k3 t3 h => cases h with
        | nil => exact .inr (.inr (.inr ⟨_, _, _, _, _, _, rfl, rfl⟩))
        | cons k4 t4 h => exfalso; simp only [List.length_cons] at hl; omega
def isStop (k : Int) : Bool := [2, 3, 4, 5, 7].any fun x => x == k
theorem stop1 {k1 : Int} {b1 : Bool} (h1 : ([2, 3, 4, 5, 7].any fun x => x == k1) = b1) : [k1].any isStop = (b1 || false) := by subst h1; rfl
theorem stop2 {k1 k2 : Int} {b1 b2 : Bool} (h1 : ([2, 3, 4, 5, 7].any fun x => x == k1) = b1) (h2 : ([2, 3, 4, 5, 7].any fun x => x == k2) = b2) : [k1, k2].any isStop = (b1 || (b2 || false)) := by subst h1 h2; rfl
theorem stop3 {k1 k2 k3 : Int} {b1 b2 b3 : Bool} (h1 : ([2, 3, 4, 5, 7].any fun x => x == k1) = b1) (h2 : ([2, 3, 4, 5, 7].any fun x => x == k2) = b2) (h3 : ([2, 3, 4, 5, 7].any fun x => x == k3) = b3) : [k1, k2, k3].any isStop = (b1 || (b2 || (b3 || false))) := by subst h1 h2 h3; rfl
theorem zs1 : ∀ {w : World} {dp un : Nat} {gd : Option (List Code)} {a : Addr} {ccd : Value} {outer : List Env} {A₀ : Around} {base h₀ : Heap} {L : Addr} {m : Str → Option Value} {s : Shared} {Q : Flow → Shared → Prop} {E : Value → Shared → Prop}
    {mean : ExcName → Option Value} {mg mb : Str → Option Value} {rl : Addr} {nr : Nat} {rowsV : List Value} {rowsI : List Int} {news : List (Addr × Obj)}
    (B : Below A₀ base outer h₀) (F : Fr h₀ L s.heap m) (X : (hd.heap_39 w.params).In h₀) (N : News h₀ L s.heap news)
    (T : Top q (looseW q []) mean mg mb h₀) (hd : dp + 60 < recursionLimit) (hu : un + 600 < cLine)
    (hm : ∀ p ∈ [(Str.ofString "rows", Value.ref rl)], m p.1 = some p.2)
    (r1 : (rl, listOf rowsV.toArray nr) ∈ news) (r2 : IntsAre rowsV rowsI) (r3 : rowsI.length ≤ 3)
    (hQ : ∀ (h' : Heap) (tk' : Nat), Fr h₀ L h' (fun y => if y = Str.ofString "stopped" then some (.bool (rowsI.any isStop)) else m y) → News h₀ L h' news → Q .next { s with heap := h', toks := tk' }),
    wpAny (model PySem.Challenge.rw_pq1410_01.row.prog w) (ktrTop dp un gd (Str.ofString "law") lawScope L a ccd [] outer) (exec (lawBody.getD 15 (.Pass default)) (envOf (Str.ofString "law") lawScope L a ccd)) Q E s := by
  k_fill
  w_top off
  intro w dp un gd a ccd outer A₀ base h₀ L m s Q E mean mg mb rl nr rowsV rowsI news B F X N T hd hu hm r1 r2 r3 hQ
  have hsc : lawScope = ⟨_, _, _, _, _⟩ := rfl
  rw [hsc]
  have hm0 := map_of hm
  rw [hm0] at F hQ
  dsimp only [kstB] at F hQ
  show wpAny _ _ (exec (.Assign _ _ _) _) _ _ _
  rcases ints_short r2 r3 with ⟨rfl, rfl⟩ | ⟨k1, t1, rfl, rfl⟩ | ⟨k1, t1, k2, t2, rfl, rfl⟩ | ⟨k1, t1, k2, t2, k3, t3, rfl, rfl⟩
  all_goals k_steps
  all_goals (
    rename Fr h₀ L _ _ => eF
    rename News h₀ L _ _ => eN
    first
    | (rw [stop3 (by assumption) (by assumption) (by assumption)] at hQ; exact hQ _ _ eF (fun p hp => eN p (.tail _ (.tail _ hp))))
    | (rw [stop2 (by assumption) (by assumption)] at hQ; exact hQ _ _ eF (fun p hp => eN p (.tail _ (.tail _ hp))))
    | (rw [stop1 (by assumption)] at hQ; exact hQ _ _ eF (fun p hp => eN p (.tail _ (.tail _ hp))))
    | exact hQ _ _ eF (fun p hp => eN p (.tail _ (.tail _ hp))))
end
section


local macro_rules | `(tactic| walk_at "call ref") => `(tactic| (k_here; (show wpAny _ _ (call (Value.ref 206) _) _ _ _); k_dflt (refine' mb1 ?k1 ?k2 ?k3 ?k4 ?k5 ?kK ?kd ?ku ?i1 ?i2 ?i3 ?b1 ?b2 ?b3 ?hc ?_; (case k1 => k_asm); (case k2 => k_asm); (case k3 => k_asm); (case k4 => k_asm); (case k5 => k_asm); (case kK => exact rfl); (case kd => ktr_room); (case ku => ktr_units); (case i1 => k_mem); (case i2 => k_mem); (case i3 => assumption); (case b1 => k_mem); (case b2 => k_mem); (case b3 => assumption); (case hc => assumption); intro h' tk' F' N')))

theorem zi1 : ∀ {w : World} {dp un : Nat} {gd : Option (List Code)} {a : Addr} {ccd : Value} {outer : List Env} {A₀ : Around} {base h₀ : Heap} {L : Addr} {m : Str → Option Value} {s : Shared} {Q : Flow → Shared → Prop} {E : Value → Shared → Prop}
    {mean : ExcName → Option Value} {mg mb : Str → Option Value} {rl ip dip eb deb : Addr} {esI eeb : List DictEntry} {nI nr neb : Nat} {nm : Str} {tn tb : Tok} {v : Value} {due : Bool} {d : Option (List Nat × Bool)} {st : Bool} {news : List (Addr × Obj)}
    (B : Below A₀ base outer h₀) (F : Fr h₀ L s.heap m) (X : (hd.heap_39 w.params).In h₀) (N : News h₀ L s.heap news)
    (T : Top q (looseW q []) mean mg mb h₀) (hd : dp + 60 < recursionLimit) (hu : un + 600 < cLine)
    (hm : ∀ p ∈ [(Str.ofString "stopped", Value.bool st), (Str.ofString "env", v), (Str.ofString "name", Value.str nm tn), (Str.ofString "interp", Value.ref ip), (Str.ofString "due_here", Value.bool due)], m p.1 = some p.2)
    (i1 : (ip, instObj 419 dip) ∈ news) (i2 : (dip, dictOf esI nI) ∈ news) (i3 : getL "base" esI = some (some (.ref eb))) (b1 : (eb, instObj 167 deb) ∈ news) (b2 : (deb, dictOf eeb neb) ∈ news) (b3 : getL "number" eeb = some (some (.int 0 tb)))
    (hc : Chain w nm news v d) (hst : res d = (due && !st))
    (hQ : ∀ (h' : Heap) (tk' : Nat), Fr h₀ L h' m → News h₀ L h' news → Q .next { s with heap := h', toks := tk' }),
    wpAny (model PySem.Challenge.rw_pq1410_01.row.prog w) (ktrTop dp un gd (Str.ofString "law") lawScope L a ccd [] outer) (exec (lawBody.getD 16 (.Pass default)) (envOf (Str.ofString "law") lawScope L a ccd)) Q E s := by
  k_fill
  w_top off
  intro w dp un gd a ccd outer A₀ base h₀ L m s Q E mean mg mb rl ip dip eb deb esI eeb nI nr neb nm tn tb v due d st news B F X N T hd hu hm i1 i2 i3 b1 b2 b3 hc hst hQ
  have hsc : lawScope = ⟨_, _, _, _, _⟩ := rfl
  rw [hsc]
  have hm0 := map_of hm
  rw [hm0] at F hQ
  dsimp only [kstB] at F hQ
  show wpAny _ _ (exec (.If _ _ _ _) _) _ _ _
  k_steps
  all_goals first
    | (rename Fr h₀ L _ _ => eF
       rename News h₀ L _ _ => eN
       exact hQ _ _ eF eN)
    | (exfalso; cases due <;> cases st <;> simp_all (config := { decide := true }) only [Bool.and_true, Bool.and_false, Bool.true_and, Bool.false_and, Bool.not_true, Bool.not_false, bne_self_eq_false])
    | fail "an end is left"
end
local macro_rules | `(tactic| k_sub) => `(tactic| (repeat' (first | exact sub0 | refine sub1 ?_)))
section
local macro_rules | `(tactic| walk_at "pad 0") => `(tactic| skip)


local macro_rules | `(tactic| kwd_rel) => `(tactic| first | assumption | exact Chain.stop)
local macro_rules | `(tactic| kwd_inv) => `(tactic| exact True.intro)
local macro_rules | `(tactic| kwd_less) => `(tactic| (simp only [csize, List.length_cons, List.length_nil]; omega))
local macro_rules | `(tactic| walk_at "exec While Compare cons nil") => `(tactic| (k_here; (rename Fr _ _ _ _ => lF'); (rename News _ _ _ _ => lN'); (with_unfolding_all refine' kwd_while0 (Rel := Chain _ _) (y := Str.ofString "env") [Str.ofString "found"] csize (fun _ _ => True) lF' lN' (by rfl) (by assumption) True.intro (fun v' d' u' h' tk' hR' hI' F' N' => ?_)); clear lF' lN'; (cases hR' <;> (first | ((rename Cell _ _ _ => hC); cases hC) | ((rename BaseCell _ _ _ _ => hC); cases hC) | skip))))

theorem zw1 : ∀ {w : World} {dp un : Nat} {gd : Option (List Code)} {a : Addr} {ccd : Value} {outer : List Env} {A₀ : Around} {base h₀ : Heap} {L : Addr} {m : Str → Option Value} {s : Shared} {Q : Flow → Shared → Prop} {E : Value → Shared → Prop}
    {mean : ExcName → Option Value} {mg mb : Str → Option Value} {nm : Str} {tn : Tok} {v : Value} {d : Option (List Nat × Bool)} {news : List (Addr × Obj)}
    (B : Below A₀ base outer h₀) (F : Fr h₀ L s.heap m) (X : (hd.heap_39 w.params).In h₀) (N : News h₀ L s.heap news)
    (T : Top q (looseW q []) mean mg mb h₀) (hd : dp + 60 < recursionLimit) (hu : un + 600 < cLine)
    (hm : ∀ p ∈ [(Str.ofString "env", v), (Str.ofString "name", Value.str nm tn)], m p.1 = some p.2)
    (hc : Chain w nm news v d)
    (hQ : ∀ (m' : Str → Option Value) (news' : List (Addr × Obj)) (h' : Heap) (tk' : Nat), Fr h₀ L h' m' → News h₀ L h' news' → Q (.ret (.bool true)) { s with heap := h', toks := tk' }),
    wpAny (model PySem.Challenge.rw_pq1410_01.row.prog w) (ktrTop dp un gd (Str.ofString "law") lawScope L a ccd [] outer) (execs (lawBody.drop 17) (envOf (Str.ofString "law") lawScope L a ccd)) Q (fun _ _ => False) s := by
  k_fill
  w_top off
  intro w dp un gd a ccd outer A₀ base h₀ L m s Q E mean mg mb nm tn v d news B F X N T hd hu hm hc hQ
  have hsc : lawScope = ⟨_, _, _, _, _⟩ := rfl
  rw [hsc]
  have hm0 := map_of hm
  rw [hm0] at F
  dsimp only [kstB] at F
  show wpAny _ _ (execs (_ :: _ :: []) _) _ _ _
  k_steps
  all_goals first
    | (rename Fr h₀ L _ _ => eF
       rename News h₀ L _ _ => eN
       exact hQ _ _ _ _ eF eN)
    | fail "an end is left"
end
section
theorem Cell.mono {l l' : List (Addr × Obj)} {x : Option Value} {κ : Nat} (hs : ∀ p ∈ l, p ∈ l') (h : Cell l x κ) : Cell l' x κ := by
  cases h with
  | nil => exact .nil
  | vec a b c => exact .vec (hs _ a) (hs _ b) c
  | fn a b c d e f => exact .fn (hs _ a) (hs _ b) c d e f
  | freshV a b c d e f g => exact .freshV (hs _ a) (hs _ b) c d e (hs _ f) (hs _ g)
  | freshB a b c d e f g => exact .freshB (hs _ a) (hs _ b) c d e (hs _ f) (hs _ g)
  | missing a b c => exact .missing (hs _ a) (hs _ b) c
  | doneV a b c d e f g i j k m => exact .doneV (hs _ a) (hs _ b) c d e (hs _ f) (hs _ g) i (hs _ j) (hs _ k) m
  | doneF a b c d e f g i j k m n o p => exact .doneF (hs _ a) (hs _ b) c d e (hs _ f) (hs _ g) i (hs _ j) (hs _ k) m n o p
theorem BaseCell.mono {nm : Str} {l l' : List (Addr × Obj)} {x : Option Value} {due : Bool} (hs : ∀ p ∈ l, p ∈ l') (h : BaseCell nm l x due) : BaseCell nm l' x due := by
  cases h with
  | nil => exact .nil
  | clo a b c => exact .clo (hs _ a) (hs _ b) c
  | fn a b c d e f g i => exact .fn (hs _ a) (hs _ b) c d e f g i
theorem Chain.mono {w : World} {nm : Str} {l l' : List (Addr × Obj)} {v : Value} {d : Option (List Nat × Bool)} (hs : ∀ p ∈ l, p ∈ l') (h : Chain w nm l v d) : Chain w nm l' v d := by
  induction h with
  | stop => exact .stop
  | base a b c d e f g i j k => exact .base (hs _ a) (hs _ b) c d e (hs _ f) g i j (k.mono hs)
  | cons a b c d e f g i j k m n ih => exact .cons (hs _ a) (hs _ b) c d e f (hs _ g) i j k (m.mono hs) ih
theorem goUp_is : ∀ (κs : List Nat) (due : Bool), goUp κs due = (due && !(κs.any stops))
  | [], due => by simp [goUp]
  | κ :: r, due => by
    unfold goUp
    cases h : stops κ with
    | true => simp [h]
    | false => simp [h, goUp_is r due]
theorem stop_is {κ : Nat} (h : κ < 8) : isStop (κ : Int) = stops κ := by
  have : κ = 0 ∨ κ = 1 ∨ κ = 2 ∨ κ = 3 ∨ κ = 4 ∨ κ = 5 ∨ κ = 6 ∨ κ = 7 := by omega
  rcases this with rfl | rfl | rfl | rfl | rfl | rfl | rfl | rfl <;> decide
/-- a draw, the source's two lists anywhere in the ledger -/
theorem take2 {w : World} {dp un : Nat} {gd : Option (List Code)} {cn : Str} {cs : Scope} {a : Addr} {ccd : Value} {cl : List (Str × Addr)} {outer : List Env} {A₀ : Around} {base h₀ : Heap} {L : Addr} {m : Str → Option Value} {s : Shared} {Q E : Value → Shared → Prop}
    {mean : ExcName → Option Value} {mg mb : Str → Option Value} {src l0 : Addr} {so lo : Obj} {most : Int} {tm : Tok} {news : List (Addr × Obj)} {news1 : Obj → List (Addr × Obj)} {news2 : Obj → Obj → List (Addr × Obj)}
    (B : Below A₀ base outer h₀) (F : Fr h₀ L s.heap m) (X : (hd.heap_39 w.params).In h₀) (N : News h₀ L s.heap news)
    (T : Top q (looseW q []) mean mg mb h₀) (hk : cs.kind = .function) (hd : dp + 1 < recursionLimit) (hu : un + 100 < cLine)
    (U1 : ∀ o', Upd l0 lo o' news (news1 o')) (U2 : ∀ o' o'', Upd src so o'' (news1 o') (news2 o' o'')) (hT : TakeOk l0 so lo) (hne : ¬ (@Eq Nat src l0)) (hm0 : 0 < most) (hm1 : most ≤ 8)
    (hQ : ∀ (r : Int) (t : Tok) (so' lo' : Obj) (h' : Heap) (tk' : Nat), Fr h₀ L h' m → News h₀ L h' (news2 lo' so') → TakeOk l0 so' lo' → 0 ≤ r → r < most → Q (.int r t) { s with heap := h', toks := tk' }) :
    wpAny (model PySem.Challenge.rw_pq1410_01.row.prog w) (ktrTop dp un gd cn cs L a ccd cl outer) (call (.ref 430) [.ref src, .int most tm]) Q E s := by
  obtain ⟨vs, ns, n0, n1, ia, ib, ta, tb, rfl, rfl, hI, hlen, ha0, hb0, hb1⟩ := hT
  have m1 : (l0, listOf vs.toArray n0) ∈ news := upd_in (U1 (listOf vs.toArray n0))
  have m2 : (src, listOf #[.ref l0, .int ia ta, .int ib tb] n1) ∈ news := by
    rcases upd_mem (U1 (listOf vs.toArray n0)) (upd_in (U2 (listOf vs.toArray n0) (listOf vs.toArray n0))) with h | h
    · exact absurd (congrArg Prod.fst h) hne
    · exact h.1
  refine take1 (rest := off2 news src l0) (n0 := n0) (n1 := n1) (ta := ta) (tb := tb) B F X (fun p hp => N p ?_) T hk hd hu hne off2_a off2_b hI hlen ha0 hb0 hb1 hm0 hm1 ?_
  · rcases List.mem_cons.mp hp with rfl | hp
    · exact m2
    · rcases List.mem_cons.mp hp with rfl | hp
      · exact m1
      · exact (List.mem_filter.mp hp).1
  · intro r t vs' ns' n0' n1' ia' ib' ta' tb' h' tk' F' N' hI' hl' ha' hb' hc' hr0 hr1
    refine hQ r t _ _ h' tk' F' (fun p hp => N' p ?_) ⟨vs', ns', n0', n1', ia', ib', ta', tb', rfl, rfl, hI', hl', ha', hb', hc'⟩ hr0 hr1
    rcases upd_mem (U2 _ _) hp with h | ⟨h, hs⟩
    · rw [h]; exact .head _
    · rcases upd_mem (U1 _) h with h | ⟨h, hl⟩
      · rw [h]; exact .tail _ (.head _)
      · exact .tail _ (.tail _ (off2_mem h hs hl))
/-- a new environment, the interpreter's attributes anywhere in the ledger -/
theorem ne2 {w : World} {dp un : Nat} {gd : Option (List Code)} {cn : Str} {cs : Scope} {a : Addr} {ccd : Value} {cl : List (Str × Addr)} {outer : List Env} {A₀ : Around} {base h₀ : Heap} {L : Addr} {m : Str → Option Value} {s : Shared} {Q E : Value → Shared → Prop}
    {mean : ExcName → Option Value} {mg mb : Str → Option Value} {ip dip : Addr} {es : List DictEntry} {n : Nat} {k : Int} {t : Tok} {v : Value} {news : List (Addr × Obj)} {news1 : Obj → List (Addr × Obj)}
    (B : Below A₀ base outer h₀) (F : Fr h₀ L s.heap m) (X : (hd.heap_39 w.params).In h₀) (N : News h₀ L s.heap news)
    (T : Top q (looseW q []) mean mg mb h₀) (hk : cs.kind = .function) (hd : dp + 10 < recursionLimit) (hu : un + 100 < cLine)
    (U : ∀ o', Upd dip (dictOf es n) o' news (news1 o')) (i1 : (ip, instObj 419 dip) ∈ news) (g : getL "next_number" es = some (some (.int k t))) (hk0 : 0 ≤ k) (hk1 : k ≤ 1000) (hlen : es.length ≤ 100) (hne : ¬ (@Eq Nat ip dip))
    (hv : v = .none ∨ ∃ pa, v = .ref pa)
    (hQ : ∀ (e de fe : Addr) (esE es' : List DictEntry) (nE n' : Nat) (oF : Obj) (t2 : Tok) (h' : Heap) (tk' : Nat), Fr h₀ L h' m → News h₀ L h' ((fe, oF) :: (e, instObj 167 de) :: (de, dictOf esE nE) :: news1 (dictOf es' n')) →
      oF.IsDictOf (strKind PySem.Challenge.rw_pq1410_01.row.prog w) [] → (fe == sysModules) = false → (∀ p ∈ news, p.1 < de) → @LT.lt Nat _ de e → @LT.lt Nat _ e fe →
      getL "number" esE = some (some (.int k t)) → getL "parent" esE = some (some v) → getL "frame" esE = some (some (.ref fe)) →
      (∀ key x, (Str.ofString "next_number" == key) = false → getL key es = some x → getL key es' = some x) → getL "next_number" es' = some (some (.int (k + 1) t2)) → es'.length ≤ es.length + 1 → Q (.ref e) { s with heap := h', toks := tk' }) :
    wpAny (model PySem.Challenge.rw_pq1410_01.row.prog w) (ktrTop dp un gd cn cs L a ccd cl outer) (call (.ref 235) [.ref ip, v]) Q E s := by
  have m1 : (dip, dictOf es n) ∈ news := upd_in (U (dictOf es n))
  refine ne1 (rest := off2 news dip dip) (n := n) B F X (fun p hp => N p ?_) T hk hd hu (off2_mem i1 hne hne) g hk0 hk1 hlen off2_a hv ?_
  · rcases List.mem_cons.mp hp with rfl | hp
    · exact m1
    · exact (List.mem_filter.mp hp).1
  · intro e de fe esE es' nE n' oF t2 h' tk' F' N' hd' lo' hl hdd hde hef g1 g2 g3 tr g4 hz
    refine hQ e de fe esE es' nE n' oF t2 h' tk' F' (fun p hp => N' p ?_) hd' lo' (fun p hp => ?_) hde hef g1 g2 g3 tr g4 hz
    · rcases List.mem_cons.mp hp with h | hp
      · rw [h]; exact .head _
      · rcases List.mem_cons.mp hp with h | hp
        · rw [h]; exact .tail _ (.tail _ (.head _))
        · rcases List.mem_cons.mp hp with h | hp
          · rw [h]; exact .tail _ (.tail _ (.tail _ (.head _)))
          · rcases upd_mem (U _) hp with h | ⟨h, hs⟩
            · rw [h]; exact .tail _ (.head _)
            · exact .tail _ (.tail _ (.tail _ (.tail _ (off2_mem h hs hs))))
    · by_cases hp1 : p.1 = dip
      · rw [hp1]; exact hdd
      · exact tb_ltOf hl p (off2_mem hp hp1 hp1)
end
section
local macro_rules | `(tactic| walk_at "call ref") => `(tactic| (k_here; (show wpAny _ _ (call (Value.ref 430) [Value.ref _, Value.int _ _]) _ _ _); k_dflt (refine' take1 ?k1 ?k2 ?k3 ?k4 ?k5 ?kK ?kd ?ku ?ne ?r1 ?r2 ?hI ?hl ?a0 ?b0 ?b1 ?m0 ?m1 ?_; (case k1 => k_asm); (case k2 => k_asm); (case k3 => k_asm); (case k4 => k_asm); (case k5 => k_asm); (case kK => exact rfl); (case kd => ktr_room); (case ku => ktr_units); (case ne => first | assumption | k_ne); (case r1 => k_all); (case r2 => k_all); (case hI => assumption); (case hl => assumption); (case a0 => assumption); (case b0 => assumption); (case b1 => assumption); (case m0 => decide); (case m1 => decide); intro r' t' vs' ns' n0' n1' ia' ib' ta' tb' h' tk' F' N' hI' hl' ha' hb' hc' hr0' hr1')))

local macro_rules | `(tactic| k_all) => `(tactic| first | exact List.forall_mem_nil _ | (refine' List.forall_mem_cons.mpr ⟨?a, ?b⟩; (case a => k_ne); (case b => k_all)) | assumption | exact allLt_ne (by assumption))
local macro_rules | `(tactic| walk_at "setItem ref str") => `(tactic| (k_here; k_dflt (refine' kda_set (knd := PySem.strKind _ _) ?F ?N ?U ?d (strKind_is _ _ _ _) ?z ?_; (case F => k_asm); (case N => k_asm); (case U => k_updF); (case d => k_asm); (case z => (rw [sizeLine_eq]; exact Nat.le_of_ble_eq_true (by with_unfolding_all rfl)))); intro h' o' F' N' hd'; (try dsimp only at N')))
theorem kda_get {prog : Program} {w : World} {A : Around} {E : Value → Shared → Prop} {s : Shared} {h₀ : Heap} {L d : Addr} {news : List (Addr × Obj)} {o : Obj} {kvs : List (Str × Value)} {k : Str} {t : Tok} {v : Value} {Q : Value → Shared → Prop}
    (N : News h₀ L s.heap news) (hp : (d, o) ∈ news) (hd : o.IsDictOf (strKind prog w) kvs) (hl : valueAt kvs k = some v) (h : Q v { s with toks := s.toks + 1 }) : wpAny (model prog w) A (getItem (.ref d) (.str k t)) Q E s :=
  wpAny_getItem_of (strKind_is _ _ _ _) (kda_dict N hp hd).mapOf hl h
theorem valueAt_one {nm : Str} {v : Value} : valueAt (stored [] nm v) nm = some v := by simp [valueAt, stored]
local macro_rules | `(tactic| walk_at "getItem ref str") => `(tactic| (k_here; k_dflt (refine kda_get (by k_asm) (by k_mem) (by k_asm) (by exact valueAt_one) ?_)))
local macro_rules | `(tactic| walk_at "call builtin:list.append") => `(tactic| (k_here; (with_reducible show wpAny _ _ (call (Value.builtin _) [Value.ref _, _]) _ _ _); k_dflt (refine' append_K ?k1 ?k2 ?k3 ?_ ?z; (case k1 => k_asm); (case k2 => k_asm); (case k3 => k_upd); (case z => exact rowsFit (by assumption)); k_whole); intro h' F' N'; (try k_sweep)))
theorem rowsFit {l : List Value} (h : l.length ≤ 100) : l.toArray.size ≤ sizeLine := by
  rw [sizeLine_eq, List.size_toArray]; omega

theorem my_item {prog : Program} {w : World} {A : Around} {E : Value → Shared → Prop} {s : Shared} {value slice : PySem.Expr} {l : Addr} {vs : List Value} {k : Int} {u : Tok} {v : Value} {Q : Value → Shared → Prop}
    (hl : s.heap.IsList l vs.toArray) (h0 : 0 ≤ k) (hhi : k < 2 ^ 63) (hx : vs[k.toNat]? = some v) (h : Q v s)
    (hs : subscripted slice false (.ref l) (.int k u) = operate [.ref l, .int k u] (getItem (.ref l) (.int k u)) := by with_unfolding_all rfl) :
    wpAny (model prog w) A (subscriptTail value slice (.ref l) (.int k u)) Q E s :=
  tail_any hl.typeIs PySem.slot_list_getitem.lookup (wpAny_getItem_list hl h0 hhi (by simpa using hx) h) hs
theorem isListOf {h₀ h : Heap} {L l : Addr} {news : List (Addr × Obj)} {vs : List Value} {n : Nat} (N : News h₀ L h news) (hm : (l, listOf vs.toArray n) ∈ news) : h.IsList l vs.toArray := ⟨_, (N _ hm).1, rfl, n, rfl⟩
local macro_rules | `(tactic| walk_at "subscriptTail Name Name ref int") => `(tactic| (k_here; (with_reducible show wpAny _ _ (subscriptTail _ _ (Value.ref _) (Value.int _ _)) _ _ _); k_dflt (refine' my_item ?k1 ?k2 ?k3 ?k4 ?_ ?k6; (case k1 => exact isListOf (by k_asm) (by k_mem)); (case k2 => assumption); (case k3 => omega); (case k4 => assumption); (case k6 => with_unfolding_all rfl); k_whole)))

local macro_rules | `(tactic| k_ne) => `(tactic| (refine neN ?_; (try dsimp only); first | exact Nat.ne_of_lt (by with_reducible assumption) | exact Nat.ne_of_gt (by with_reducible assumption) | with_reducible assumption | exact fun e => absurd e.symm (by with_reducible assumption) | exact Nat.ne_of_lt (ltc (by with_reducible assumption) (by with_reducible assumption)) | exact Nat.ne_of_gt (ltc (by with_reducible assumption) (by with_reducible assumption)) | exact Nat.ne_of_lt (ltc (by with_reducible assumption) (ltc (by with_reducible assumption) (by with_reducible assumption))) | exact Nat.ne_of_gt (ltc (by with_reducible assumption) (ltc (by with_reducible assumption) (by with_reducible assumption))) | exact Nat.ne_of_lt (ltc (by with_reducible assumption) (ltc (by with_reducible assumption) (ltc (by with_reducible assumption) (by with_reducible assumption)))) | exact Nat.ne_of_gt (ltc (by with_reducible assumption) (ltc (by with_reducible assumption) (ltc (by with_reducible assumption) (by with_reducible assumption)))) | omega))

def TrL (es es' : List DictEntry) (nm : Str) : Prop := ∀ key x, (nm == key) = false → getL key es = some x → getL key es' = some x
theorem TrL.get {es es' : List DictEntry} {nm key : Str} {x : Option Value} (h : TrL es es' nm) (hk : (nm == key) = false) (g : getL key es = some x) : getL key es' = some x := h key x hk g
theorem set_op {prog : Program} {w : World} {A : Around} {E : Value → Shared → Prop} {s : Shared} {K : Frag} {x C dx L : Addr} {h₀ : Heap} {m : Str → Option Value} {news : List (Addr × Obj)} {news' : List DictEntry → Nat → List (Addr × Obj)} {ox : Obj} {es : List DictEntry} {n : Nat} {name : Str} {v : Value} {x0 : Option Value}
    {Q : Unit → Shared → Prop} (F : Fr h₀ L s.heap m) (X₀ : K.In h₀) (N : News h₀ L s.heap news) (I : InstAt s.heap x ox C (some (dictOf es n))) (hd : ox.dict = some dx)
    (hs : findIn K (.ref C) "__setattr__" = some (some (.builtin "object.__setattr__"))) (hp : plainOver K C = true) (ht : takerIn K C name = some none) (hh : hasDictIn K C = true) (hl : getL name es = some x0)
    (U : ∀ es' n', Upd dx (dictOf es n) (dictOf es' n') news (news' es' n')) (hz : es.length ≤ 100)
    (h : ∀ h' es' n', Fr h₀ L h' m → News h₀ L h' (news' es' n') → TrL es es' name → getL name es' = some (some v) → es'.length ≤ es.length + 1 → Q () { s with heap := h', toks := s.toks + 2 }) :
    wpAny (model prog w) A (setAttr (.ref x) name v) Q E s :=
  set_dict F X₀ N I hd hs hp ht hh (isSome_of hl) rfl (U _ _) (putLen hz) fun h' F' N' => h h' _ _ F' N' (fun key x hk hx => getL_put_ne hk hx) getL_put_eq putL_len

theorem allLt_up {d e : Addr} {l : List (Addr × Obj)} (h : AllLt d l) (hd : @LT.lt Nat _ d e) : AllLt e l := allLt_of fun p hp => Nat.lt_trans (tb_ltOf h p hp) hd
theorem ownNe {d : Addr} {l l' : List (Addr × Obj)} (h : AllLt d (l ++ l')) : ∀ q ∈ l', q.1 ≠ d := fun q hq => Nat.ne_of_lt (tb_ltOf h q (List.mem_append_right _ hq))
theorem ownNil {own : List (Addr × Obj)} : ∀ p ∈ ([] : List (Addr × Obj)), ∀ q ∈ own, q.1 ≠ p.1 := fun _ h => nomatch h
theorem ownCons {own l : List (Addr × Obj)} {d : Addr} {o : Obj} (h : ∀ q ∈ own, q.1 ≠ d) (r : ∀ p ∈ l, ∀ q ∈ own, q.1 ≠ p.1) : ∀ p ∈ (d, o) :: l, ∀ q ∈ own, q.1 ≠ p.1 := fun p hp => by
  rcases List.mem_cons.mp hp with rfl | hp
  · exact h
  · exact r p hp

local macro_rules | `(tactic| k_get) => `(tactic| first | assumption | exact TrL.get (by assumption) (by decide) (by assumption) | exact TrL.get (by assumption) (by decide) (TrL.get (by assumption) (by decide) (by assumption)))
local macro_rules | `(tactic| walk_at "setAttr ref") => `(tactic| (k_here; k_dflt (refine' set_op ?k1 ?k2 ?k3 ?k4 ?k5 ?k6 ?k7 ?k8 ?k9 ?k10 ?k12 ?k13 ?_; (case k1 => k_asm); (case k2 => k_asm); (case k3 => k_asm); (case k4 => k_inst); (case k5 => exact rfl); (case k6 => k_is); (case k7 => k_is); (case k8 => k_is); (case k9 => k_is); (case k10 => k_get); (case k12 => (intro es' n'; k_upd)); (case k13 => omega); k_whole; intro h' es' n' F' N' tr' g' z'; (try k_sweep))))

local macro_rules | `(tactic| walk_at "call ref") => `(tactic| (k_here; (show wpAny _ _ (call (Value.ref 81) _) _ _ _); k_dflt (refine' mkVec ?k1 ?k2 ?k3 ?k4 ?k5 ?kK ?kd ?ku ?_; (case k1 => k_asm); (case k2 => k_asm); (case k3 => k_asm); (case k4 => k_asm); (case k5 => k_asm); (case kK => exact rfl); (case kd => ktr_room); (case ku => ktr_units); intro x' d' es' n' h' tk' F' N' l1 l2 z' g0'; (k_lt l1); (try k_lt2 l2); (try k_sweep))))
local macro_rules | `(tactic| walk_at "call ref") => `(tactic| (k_here; (show wpAny _ _ (call (Value.ref 52) _) _ _ _); k_dflt (refine' mkMissing ?k1 ?k2 ?k3 ?k4 ?k5 ?kK ?kd ?ku ?_; (case k1 => k_asm); (case k2 => k_asm); (case k3 => k_asm); (case k4 => k_asm); (case k5 => k_asm); (case kK => exact rfl); (case kd => ktr_room); (case ku => ktr_units); intro x' d' es' n' h' tk' u1' F' N' l1 l2 z' g0'; (k_lt l1); (try k_lt2 l2); (try k_sweep))))
local macro_rules | `(tactic| walk_at "call ref") => `(tactic| (k_here; (show wpAny _ _ (call (Value.ref 102) _) _ _ _); k_dflt (refine' mkSym ?k1 ?k2 ?k3 ?k4 ?k5 ?kK ?kd ?ku ?_; (case k1 => k_asm); (case k2 => k_asm); (case k3 => k_asm); (case k4 => k_asm); (case k5 => k_asm); (case kK => exact rfl); (case kd => ktr_room); (case ku => ktr_units); intro x' d' es' n' h' tk' u1' F' N' l1 l2 z' g0'; (k_lt l1); (try k_lt2 l2); (try k_sweep))))
local macro_rules | `(tactic| walk_at "call ref") => `(tactic| (k_here; (show wpAny _ _ (call (Value.ref 124) _) _ _ _); k_dflt (refine' mkClo ?k1 ?k2 ?k3 ?k4 ?k5 ?kK ?kd ?ku ?_; (case k1 => k_asm); (case k2 => k_asm); (case k3 => k_asm); (case k4 => k_asm); (case k5 => k_asm); (case kK => exact rfl); (case kd => ktr_room); (case ku => ktr_units); intro x' d' es' n' h' tk' u1' F' N' l1 l2 z' g0'; (k_lt l1); (try k_lt2 l2); (try k_sweep))))
local macro_rules | `(tactic| walk_at "call ref") => `(tactic| (k_here; (show wpAny _ _ (call (Value.ref 188) _) _ _ _); k_dflt (refine' mkProm ?k1 ?k2 ?k3 ?k4 ?k5 ?kK ?kd ?ku ?_; (case k1 => k_asm); (case k2 => k_asm); (case k3 => k_asm); (case k4 => k_asm); (case k5 => k_asm); (case kK => exact rfl); (case kd => ktr_room); (case ku => ktr_units); intro x' d' es' n' h' tk' u1' u2' F' N' l1 l2 z' g0' g1' g2' g3'; (k_lt l1); (try k_lt2 l2); (try k_sweep))))
local macro_rules | `(tactic| walk_at "call ref") => `(tactic| (k_here; (show wpAny _ _ (call (Value.ref 145) _) _ _ _); k_dflt (refine' mkBlt ?k1 ?k2 ?k3 ?k4 ?k5 ?kK ?kd ?ku ?_; (case k1 => k_asm); (case k2 => k_asm); (case k3 => k_asm); (case k4 => k_asm); (case k5 => k_asm); (case kK => exact rfl); (case kd => ktr_room); (case ku => ktr_units); intro x' d' es' n' h' tk' u1' F' N' l1 l2 z' g0' g1' g2' g3'; (k_lt l1); (try k_lt2 l2); (try k_sweep))))
theorem mv0 {a b c d : Addr × Obj} {l : List (Addr × Obj)} : ∀ p ∈ a :: b :: c :: d :: (l), p ∈ a :: b :: c :: d :: l := by
  intro p hp
  simp only [List.mem_cons] at hp ⊢
  rcases hp with h | h | h | h | h <;> simp [h]
theorem mv2 {n0 n1 : Addr × Obj} {a b c d : Addr × Obj} {l : List (Addr × Obj)} : ∀ p ∈ a :: b :: c :: d :: (n0 :: n1 :: l), p ∈ n0 :: n1 :: a :: b :: c :: d :: l := by
  intro p hp
  simp only [List.mem_cons] at hp ⊢
  rcases hp with h | h | h | h | h | h | h <;> simp [h]
theorem mv3 {n0 n1 n2 : Addr × Obj} {a b c d : Addr × Obj} {l : List (Addr × Obj)} : ∀ p ∈ a :: b :: c :: d :: (n0 :: n1 :: n2 :: l), p ∈ n0 :: n1 :: n2 :: a :: b :: c :: d :: l := by
  intro p hp
  simp only [List.mem_cons] at hp ⊢
  rcases hp with h | h | h | h | h | h | h | h <;> simp [h]
theorem mv4 {n0 n1 n2 n3 : Addr × Obj} {a b c d : Addr × Obj} {l : List (Addr × Obj)} : ∀ p ∈ a :: b :: c :: d :: (n0 :: n1 :: n2 :: n3 :: l), p ∈ n0 :: n1 :: n2 :: n3 :: a :: b :: c :: d :: l := by
  intro p hp
  simp only [List.mem_cons] at hp ⊢
  rcases hp with h | h | h | h | h | h | h | h | h <;> simp [h]
theorem mv5 {n0 n1 n2 n3 n4 : Addr × Obj} {a b c d : Addr × Obj} {l : List (Addr × Obj)} : ∀ p ∈ a :: b :: c :: d :: (n0 :: n1 :: n2 :: n3 :: n4 :: l), p ∈ n0 :: n1 :: n2 :: n3 :: n4 :: a :: b :: c :: d :: l := by
  intro p hp
  simp only [List.mem_cons] at hp ⊢
  rcases hp with h | h | h | h | h | h | h | h | h | h <;> simp [h]
theorem mv7 {n0 n1 n2 n3 n4 n5 n6 : Addr × Obj} {a b c d : Addr × Obj} {l : List (Addr × Obj)} : ∀ p ∈ a :: b :: c :: d :: (n0 :: n1 :: n2 :: n3 :: n4 :: n5 :: n6 :: l), p ∈ n0 :: n1 :: n2 :: n3 :: n4 :: n5 :: n6 :: a :: b :: c :: d :: l := by
  intro p hp
  simp only [List.mem_cons] at hp ⊢
  rcases hp with h | h | h | h | h | h | h | h | h | h | h | h <;> simp [h]

theorem kindIs {r : Int} (κ : Nat) {Q : Int → Prop} (h : r = κ) (q : Q κ) : Q r := h ▸ q
theorem rw1 : ∀ {w : World} {dp un : Nat} {gd : Option (List Code)} {a : Addr} {ccd : Value} {outer : List Env} {A₀ : Around} {base h₀ : Heap} {L : Addr} {m : Str → Option Value} {s : Shared} {Q : Flow → Shared → Prop} {E : Value → Shared → Prop}
    {mean : ExcName → Option Value} {mg mb : Str → Option Value} {src l0 rl dip fe ip e de eg bl rb drb : Addr} {so lo oF : Obj} {esI ee er : List DictEntry} {nI ne nr nbl nrb : Nat} {nm κb : Str} {tn trt tκ : Tok} {rt : Int} {rowsV vsb : List Value} {stat own : List (Addr × Obj)}
    (B : Below A₀ base outer h₀) (F : Fr h₀ L s.heap m) (X : (hd.heap_39 w.params).In h₀) (N : News h₀ L s.heap ((src, so) :: (l0, lo) :: (rl, listOf rowsV.toArray nr) :: (dip, dictOf esI nI) :: (fe, oF) :: (stat ++ own)))
    (T : Top q (looseW q []) mean mg mb h₀) (hd : dp + 60 < recursionLimit) (hu : un + 600 < cLine)
    (hT : TakeOk l0 so lo) (d_src_l0 : ¬ (@Eq Nat src l0)) (d_src_rl : ¬ (@Eq Nat src rl)) (d_src_dip : ¬ (@Eq Nat src dip)) (d_src_fe : ¬ (@Eq Nat src fe)) (d_l0_rl : ¬ (@Eq Nat l0 rl)) (d_l0_dip : ¬ (@Eq Nat l0 dip)) (d_l0_fe : ¬ (@Eq Nat l0 fe)) (d_rl_dip : ¬ (@Eq Nat rl dip)) (d_rl_fe : ¬ (@Eq Nat rl fe)) (d_dip_fe : ¬ (@Eq Nat dip fe))
    (o_src : ∀ p ∈ stat ++ own, p.1 ≠ src) (o_l0 : ∀ p ∈ stat ++ own, p.1 ≠ l0) (o_rl : ∀ p ∈ stat ++ own, p.1 ≠ rl) (o_dip : ∀ p ∈ stat ++ own, p.1 ≠ dip) (o_fe : ∀ p ∈ stat ++ own, p.1 ≠ fe)
    (hm : ∀ p ∈ [(Str.ofString "source", Value.ref src), (Str.ofString "rows", Value.ref rl), (Str.ofString "env", Value.ref e), (Str.ofString "name", Value.str nm tn), (Str.ofString "bodies", Value.ref bl), (Str.ofString "right", Value.int rt trt), (Str.ofString "interp", Value.ref ip)], m p.1 = some p.2)
    (hrows : rowsV.length ≤ 100) (e1 : (e, instObj 167 de) ∈ stat) (e2 : (de, dictOf ee ne) ∈ stat) (e3 : getL "frame" ee = some (some (.ref fe))) (f1 : oF.IsDictOf (strKind PySem.Challenge.rw_pq1410_01.row.prog w) []) (f2 : (fe == sysModules) = false)
    (i1 : (ip, instObj 419 dip) ∈ stat) (i2 : getL "globals" esI = some (some (.ref eg)))
    (b1 : (bl, listOf vsb.toArray nbl) ∈ stat) (b2 : 0 ≤ rt) (b3 : rt < 3) (b4 : vsb[rt.toNat]? = some (.ref rb)) (b5 : (rb, instObj 145 drb) ∈ stat) (b6 : (drb, dictOf er nrb) ∈ stat) (b7 : getL "kind" er = some (some (.str κb tκ))) (b8 : fnKind κb = true) (b9 : (κb == Str.ofString "promise") = false) (b10 : (κb == Str.ofString "missing") = false)
    (hQ : ∀ (r : Int) (κ : Nat) (t : Tok) (so' lo' oF' : Obj) (new : List (Addr × Obj)) (kvs : List (Str × Value)) (x : Option Value) (h' : Heap) (tk' : Nat), r = (κ : Int) → κ < 8 → TakeOk l0 so' lo' → Fr h₀ L h' (fun y => if y = Str.ofString "kind" then some (.int r t) else m y) →
      News h₀ L h' ((src, so') :: (l0, lo') :: (rl, listOf (rowsV.toArray.push (.int r t)) (nr + 1)) :: (dip, dictOf esI nI) :: (new ++ (fe, oF') :: (stat ++ own))) → oF'.IsDictOf (strKind PySem.Challenge.rw_pq1410_01.row.prog w) kvs → valueAt kvs nm = x → Cell (new ++ (fe, oF') :: stat) x κ →
      (∀ p ∈ new, ∀ q ∈ own, q.1 ≠ p.1) → (∀ p ∈ new, p.1 ≠ src) → (∀ p ∈ new, p.1 ≠ l0) → (∀ p ∈ new, p.1 ≠ rl) → (∀ p ∈ new, p.1 ≠ dip) → Q .next { s with heap := h', toks := tk' }),
    wpAny (model PySem.Challenge.rw_pq1410_01.row.prog w) (ktrTop dp un gd (Str.ofString "law") lawScope L a ccd [] outer) (execs (forBody.drop 1) (envOf (Str.ofString "law") lawScope L a ccd)) Q E s := by
  k_fill
  w_top off
  intro w dp un gd a ccd outer A₀ base h₀ L m s Q E mean mg mb src l0 rl dip fe ip e de eg bl rb drb so lo oF esI ee er nI ne nr nbl nrb nm κb tn trt tκ rt rowsV vsb stat own B F X N T hd hu hT d_src_l0 d_src_rl d_src_dip d_src_fe d_l0_rl d_l0_dip d_l0_fe d_rl_dip d_rl_fe d_dip_fe o_src o_l0 o_rl o_dip o_fe hm hrows e1 e2 e3 f1 f2 i1 i2 b1 b2 b3 b4 b5 b6 b7 b8 b9 b10 hQ
  have hsc : lawScope = ⟨_, _, _, _, _⟩ := rfl
  rw [hsc]
  have hm0 := map_of hm
  rw [hm0] at F hQ
  obtain ⟨vs, ns, n0, n1, ia, ib, ta, tb, rfl, rfl, hI, hlen, ha0, hb0, hb1⟩ := hT
  have e1' := List.mem_append_left own e1
  have e2' := List.mem_append_left own e2
  have i1' := List.mem_append_left own i1
  have b1' := List.mem_append_left own b1
  have b5' := List.mem_append_left own b5
  have b6' := List.mem_append_left own b6
  show wpAny _ _ (execs (_ :: _ :: _ :: []) _) _ _ _
  k_steps
  all_goals (
    rename Fr h₀ L _ _ => eF
    rename News h₀ L _ _ => eN
    first
    | (refine' hQ _ 0 _ _ _ _ [] _ _ _ _ (by omega) (by decide) ⟨_, _, _, _, _, _, _, _, rfl, rfl, by assumption, by assumption, by assumption, by assumption, by assumption⟩ eF (newsSub eN mv0) (by assumption) (by exact rfl) ?e3 ?e1 ?e4 ?e5 ?e6 ?e7; (case e1 => (repeat' (first | exact ownNil | (refine ownCons ?_ ?_; (focus (first | exact ownNe (by assumption) | (refine' ownNe (allLt_up ?h1 ?h2); (case h2 => assumption); (case h1 => assumption)))))))); (case e3 => ((try simp only [List.cons_append, List.nil_append]); exact Cell.nil)); (case e4 => k_all); (case e5 => k_all); (case e6 => k_all); (case e7 => k_all))
    | (refine' hQ _ 1 _ _ _ _ [_, _, _] _ _ _ _ (by omega) (by decide) ⟨_, _, _, _, _, _, _, _, rfl, rfl, by assumption, by assumption, by assumption, by assumption, by assumption⟩ eF (newsSub eN mv3) (by assumption) (by exact valueAt_one) ?e3 ?e1 ?e4 ?e5 ?e6 ?e7; (case e1 => (repeat' (first | exact ownNil | (refine ownCons ?_ ?_; (focus (first | exact ownNe (by assumption) | (refine' ownNe (allLt_up ?h1 ?h2); (case h2 => assumption); (case h1 => assumption)))))))); (case e3 => ((try simp only [List.cons_append, List.nil_append]); exact Cell.vec (by k_mem) (by k_mem) (by k_get))); (case e4 => k_all); (case e5 => k_all); (case e6 => k_all); (case e7 => k_all))
    | (refine' hQ _ 2 _ _ _ _ [] _ _ _ _ (by omega) (by decide) ⟨_, _, _, _, _, _, _, _, rfl, rfl, by assumption, by assumption, by assumption, by assumption, by assumption⟩ eF (newsSub eN mv0) (by assumption) (by exact valueAt_one) ?e3 ?e1 ?e4 ?e5 ?e6 ?e7; (case e1 => (repeat' (first | exact ownNil | (refine ownCons ?_ ?_; (focus (first | exact ownNe (by assumption) | (refine' ownNe (allLt_up ?h1 ?h2); (case h2 => assumption); (case h1 => assumption)))))))); (case e3 => ((try simp only [List.cons_append, List.nil_append]); exact Cell.fn (by k_mem) (by k_mem) (by k_get) (by assumption) (by assumption) (by assumption))); (case e4 => k_all); (case e5 => k_all); (case e6 => k_all); (case e7 => k_all))
    | (refine' hQ _ 3 _ _ _ _ [_, _, _, _, _] _ _ _ _ (by omega) (by decide) ⟨_, _, _, _, _, _, _, _, rfl, rfl, by assumption, by assumption, by assumption, by assumption, by assumption⟩ eF (newsSub eN mv5) (by assumption) (by exact valueAt_one) ?e3 ?e1 ?e4 ?e5 ?e6 ?e7; (case e1 => (repeat' (first | exact ownNil | (refine ownCons ?_ ?_; (focus (first | exact ownNe (by assumption) | (refine' ownNe (allLt_up ?h1 ?h2); (case h2 => assumption); (case h1 => assumption)))))))); (case e3 => ((try simp only [List.cons_append, List.nil_append]); exact Cell.freshV (by k_mem) (by k_mem) (by k_get) (by k_get) (by k_get) (by k_mem) (by k_mem))); (case e4 => k_all); (case e5 => k_all); (case e6 => k_all); (case e7 => k_all))
    | (refine' hQ _ 4 _ _ _ _ [_, _] _ _ _ _ (by omega) (by decide) ⟨_, _, _, _, _, _, _, _, rfl, rfl, by assumption, by assumption, by assumption, by assumption, by assumption⟩ eF (newsSub eN mv2) (by assumption) (by exact valueAt_one) ?e3 ?e1 ?e4 ?e5 ?e6 ?e7; (case e1 => (repeat' (first | exact ownNil | (refine ownCons ?_ ?_; (focus (first | exact ownNe (by assumption) | (refine' ownNe (allLt_up ?h1 ?h2); (case h2 => assumption); (case h1 => assumption)))))))); (case e3 => ((try simp only [List.cons_append, List.nil_append]); exact Cell.freshB (by k_mem) (by k_mem) (by k_get) (by k_get) (by k_get) (by k_mem) (by k_mem))); (case e4 => k_all); (case e5 => k_all); (case e6 => k_all); (case e7 => k_all))
    | (refine' hQ _ 5 _ _ _ _ [_, _] _ _ _ _ (by omega) (by decide) ⟨_, _, _, _, _, _, _, _, rfl, rfl, by assumption, by assumption, by assumption, by assumption, by assumption⟩ eF (newsSub eN mv2) (by assumption) (by exact valueAt_one) ?e3 ?e1 ?e4 ?e5 ?e6 ?e7; (case e1 => (repeat' (first | exact ownNil | (refine ownCons ?_ ?_; (focus (first | exact ownNe (by assumption) | (refine' ownNe (allLt_up ?h1 ?h2); (case h2 => assumption); (case h1 => assumption)))))))); (case e3 => ((try simp only [List.cons_append, List.nil_append]); exact Cell.missing (by k_mem) (by k_mem) (by k_get))); (case e4 => k_all); (case e5 => k_all); (case e6 => k_all); (case e7 => k_all))
    | (refine' hQ _ 6 _ _ _ _ [_, _, _, _, _, _, _] _ _ _ _ (by omega) (by decide) ⟨_, _, _, _, _, _, _, _, rfl, rfl, by assumption, by assumption, by assumption, by assumption, by assumption⟩ eF (newsSub eN mv7) (by assumption) (by exact valueAt_one) ?e3 ?e1 ?e4 ?e5 ?e6 ?e7; (case e1 => (repeat' (first | exact ownNil | (refine ownCons ?_ ?_; (focus (first | exact ownNe (by assumption) | (refine' ownNe (allLt_up ?h1 ?h2); (case h2 => assumption); (case h1 => assumption)))))))); (case e3 => ((try simp only [List.cons_append, List.nil_append]); exact Cell.doneV (by k_mem) (by k_mem) (by k_get) (by k_get) (by k_get) (by k_mem) (by k_mem) (by k_get) (by k_mem) (by k_mem) (by k_get))); (case e4 => k_all); (case e5 => k_all); (case e6 => k_all); (case e7 => k_all))
    | (refine' hQ _ 7 _ _ _ _ [_, _, _, _] _ _ _ _ (by omega) (by decide) ⟨_, _, _, _, _, _, _, _, rfl, rfl, by assumption, by assumption, by assumption, by assumption, by assumption⟩ eF (newsSub eN mv4) (by assumption) (by exact valueAt_one) ?e3 ?e1 ?e4 ?e5 ?e6 ?e7; (case e1 => (repeat' (first | exact ownNil | (refine ownCons ?_ ?_; (focus (first | exact ownNe (by assumption) | (refine' ownNe (allLt_up ?h1 ?h2); (case h2 => assumption); (case h1 => assumption)))))))); (case e3 => ((try simp only [List.cons_append, List.nil_append]); exact Cell.doneF (by k_mem) (by k_mem) (by k_get) (by k_get) (by k_get) (by k_mem) (by k_mem) (by k_get) (by k_mem) (by k_mem) (by k_get) (by assumption) (by assumption) (by assumption))); (case e4 => k_all); (case e5 => k_all); (case e6 => k_all); (case e7 => k_all))
    | fail "a row is left")
end
local macro_rules | `(tactic| k_ne) => `(tactic| (refine neN ?_; (try dsimp only); first | exact Nat.ne_of_lt (by with_reducible assumption) | exact Nat.ne_of_gt (by with_reducible assumption) | with_reducible assumption | exact fun e => absurd e.symm (by with_reducible assumption) | exact Nat.ne_of_lt (ltc (by with_reducible assumption) (by with_reducible assumption)) | exact Nat.ne_of_gt (ltc (by with_reducible assumption) (by with_reducible assumption)) | exact Nat.ne_of_lt (ltc (by with_reducible assumption) (ltc (by with_reducible assumption) (by with_reducible assumption))) | exact Nat.ne_of_gt (ltc (by with_reducible assumption) (ltc (by with_reducible assumption) (by with_reducible assumption))) | exact Nat.ne_of_lt (ltc (by with_reducible assumption) (ltc (by with_reducible assumption) (ltc (by with_reducible assumption) (by with_reducible assumption)))) | exact Nat.ne_of_gt (ltc (by with_reducible assumption) (ltc (by with_reducible assumption) (ltc (by with_reducible assumption) (by with_reducible assumption)))) | omega))
section

def Halt (P : Prop) : Prop := P
theorem halt {P : Prop} (h : Halt P) : P := h
structure Stat (imm : List (Addr × Obj)) (ip dip eb bl rb : Addr) (rt : Int) : Prop where
  i1 : (ip, instObj 419 dip) ∈ imm
  bs : ∃ (vsb : List Value) (nbl : Nat), (bl, listOf vsb.toArray nbl) ∈ imm ∧ vsb[rt.toNat]? = some (.ref rb)
  r0 : 0 ≤ rt
  r3 : rt < 3
  rb : ∃ (drb : Addr) (er : List DictEntry) (nrb : Nat) (κb : Str) (tκ : Tok), (rb, instObj 145 drb) ∈ imm ∧ (drb, dictOf er nrb) ∈ imm ∧ getL "kind" er = some (some (.str κb tκ)) ∧ fnKind κb = true ∧ (κb == Str.ofString "promise") = false ∧ (κb == Str.ofString "missing") = false
  eb : ∃ (deb : Addr) (eeb : List DictEntry) (neb : Nat) (tb : Tok), (eb, instObj 167 deb) ∈ imm ∧ (deb, dictOf eeb neb) ∈ imm ∧ getL "number" eeb = some (some (.int 0 tb))
theorem Stat.mono {imm imm' : List (Addr × Obj)} {ip dip eb bl rb : Addr} {rt : Int} (hs : ∀ p ∈ imm, p ∈ imm') (h : Stat imm ip dip eb bl rb rt) : Stat imm' ip dip eb bl rb rt := by
  obtain ⟨i1, ⟨vsb, nbl, b1, b2⟩, r0, r3, ⟨drb, er, nrb, κb, tκ, c1, c2, c3⟩, ⟨deb, eeb, neb, tb, e1, e2, e3⟩⟩ := h
  exact ⟨hs _ i1, ⟨vsb, nbl, hs _ b1, b2⟩, r0, r3, ⟨drb, er, nrb, κb, tκ, hs _ c1, hs _ c2, c3⟩, ⟨deb, eeb, neb, tb, hs _ e1, hs _ e2, e3⟩⟩
def IpOk (es : List DictEntry) (eb eg : Addr) (i : Nat) : Prop := getL "base" es = some (some (.ref eb)) ∧ getL "globals" es = some (some (.ref eg)) ∧ getL "new_env" es = some none ∧ es.length ≤ 50 + i ∧ ∃ (k : Int) (t : Tok), getL "next_number" es = some (some (.int k t)) ∧ 0 < k ∧ k ≤ 10 + i
abbrev lookups (src rl : Addr) (v : Value) (nm : Str) (tn : Tok) (bl : Addr) (rt : Int) (trt : Tok) (ip : Addr) (due : Bool) : List (Str × Value) := [(Str.ofString "source", Value.ref src), (Str.ofString "rows", Value.ref rl), (Str.ofString "env", v), (Str.ofString "name", Value.str nm tn), (Str.ofString "bodies", Value.ref bl), (Str.ofString "right", Value.int rt trt), (Str.ofString "interp", Value.ref ip), (Str.ofString "due_here", Value.bool due)]
/-- the chain's lowest environment before its row -/
def Fresh (w : World) (nm : Str) (due : Bool) (imm : List (Addr × Obj)) (ip dip eb eg bl rb : Addr) (rt : Int) (v : Value) : Prop := ∃ (fg deg : Addr) (oG : Obj) (imm0 : List (Addr × Obj)) (eeg : List DictEntry) (neg : Nat) (tg : Tok), imm = (fg, oG) :: imm0 ∧ v = .ref eg ∧ (∀ p ∈ imm0, p.1 ≠ fg) ∧ oG.IsDictOf (strKind PySem.Challenge.rw_pq1410_01.row.prog w) [] ∧ (fg == sysModules) = false ∧
  Stat imm0 ip dip eb bl rb rt ∧ (eg, instObj 167 deg) ∈ imm0 ∧ (deg, dictOf eeg neg) ∈ imm0 ∧ getL "number" eeg = some (some (.int 1 tg)) ∧ getL "parent" eeg = some (some (.ref eb)) ∧ getL "frame" eeg = some (some (.ref fg)) ∧ Chain w nm imm0 (.ref eb) (some ([], due))
def Laid (w : World) (nm : Str) (due : Bool) (imm : List (Addr × Obj)) (ip dip eb bl rb : Addr) (rt : Int) (v : Value) (rowsI : List Int) : Prop := ∃ (κs : List Nat) (e : Addr), v = .ref e ∧ Stat imm ip dip eb bl rb rt ∧ Chain w nm imm v (some (κs, due)) ∧ rowsI.any isStop = κs.any stops
def JJ (w : World) (nm : Str) (tn trt : Tok) (due : Bool) (src l0 rl ip dip eb eg bl rb : Addr) (rt : Int) (i : Nat) (m : Str → Option Value) (nx : List (Addr × Obj)) : Prop :=
  ∃ (so lo : Obj) (rowsV : List Value) (rowsI : List Int) (nr nI : Nat) (esI : List DictEntry) (imm : List (Addr × Obj)) (v : Value), nx = (src, so) :: (l0, lo) :: (rl, listOf rowsV.toArray nr) :: (dip, dictOf esI nI) :: imm ∧ TakeOk l0 so lo ∧ IntsAre rowsV rowsI ∧ rowsI.length = i ∧ IpOk esI eb eg i ∧
    (∀ p ∈ imm, p.1 ≠ src) ∧ (∀ p ∈ imm, p.1 ≠ l0) ∧ (∀ p ∈ imm, p.1 ≠ rl) ∧ (∀ p ∈ imm, p.1 ≠ dip) ∧ (∀ p ∈ lookups src rl v nm tn bl rt trt ip due, m p.1 = some p.2) ∧
    ((i = 0 ∧ Fresh w nm due imm ip dip eb eg bl rb rt v) ∨ (0 < i ∧ Laid w nm due imm ip dip eb bl rb rt v rowsI))
theorem subOwn {a b c d e : Addr × Obj} {new stat own : List (Addr × Obj)} : ∀ p ∈ a :: b :: c :: d :: (new ++ e :: stat), p ∈ a :: b :: c :: d :: (new ++ e :: (stat ++ own)) := by
  intro p hp
  simp only [List.mem_cons, List.mem_append] at hp ⊢
  rcases hp with h | h | h | h | h | h | h <;> simp [h]
theorem ownIn {a b c d e : Addr × Obj} {new stat own : List (Addr × Obj)} : ∀ p ∈ own, p ∈ a :: b :: c :: d :: (new ++ e :: (stat ++ own)) := by
  intro p hp
  simp [hp]
theorem permT {a b c d e f g : Addr × Obj} {imm own : List (Addr × Obj)} : ∀ p ∈ d :: e :: f :: g :: a :: ((b :: c :: imm) ++ own), p ∈ a :: b :: c :: d :: e :: f :: g :: (imm ++ own) := by
  intro p hp
  simp only [List.mem_cons, List.mem_append, List.cons_append] at hp ⊢
  rcases hp with h | h | h | h | h | h | h | h | h <;> simp [h]

theorem offApp {l l' : List (Addr × Obj)} {d : Addr} (h1 : ∀ p ∈ l, p.1 ≠ d) (h2 : ∀ p ∈ l', p.1 ≠ d) : ∀ p ∈ l ++ l', p.1 ≠ d := fun p hp => (List.mem_append.mp hp).elim (h1 p) (h2 p)
theorem names_ne {src rl : Addr} {v : Value} {nm : Str} {tn : Tok} {bl : Addr} {rt : Int} {trt : Tok} {ip : Addr} {due : Bool} : ∀ p ∈ lookups src rl v nm tn bl rt trt ip due, p.1 ≠ Str.ofString "kind" := by
  have h : ∀ x ∈ [Str.ofString "source", Str.ofString "rows", Str.ofString "env", Str.ofString "name", Str.ofString "bodies", Str.ofString "right", Str.ofString "interp", Str.ofString "due_here"], x ≠ Str.ofString "kind" := by decide
  intro p hp
  exact h p.1 (by have := List.mem_map_of_mem (f := Prod.fst) hp; simpa [lookups] using this)
theorem row_end {w : World} {h₀ h9 : Heap} {L : Addr} {m3 : Str → Option Value} {src l0 rl ip dip eb eg bl rb fe e de : Addr} {nm : Str} {tn trt t te : Tok} {rt r k : Int} {due : Bool} {i κ nr nI ne : Nat} {so' lo' oF' : Obj} {stat own new : List (Addr × Obj)} {esI ee : List DictEntry} {rowsV : List Value} {rowsI : List Int} {κs : List Nat} {par : Value} {x : Option Value} {kvs : List (Str × Value)} {s1 : Shared} {tk9 : Nat}
    (hT' : TakeOk l0 so' lo') (F4 : Fr h₀ L h9 (fun y => if y = Str.ofString "kind" then some (.int r t) else m3 y)) (N4 : News h₀ L h9 ((src, so') :: (l0, lo') :: (rl, listOf (rowsV.toArray.push (.int r t)) (nr + 1)) :: (dip, dictOf esI nI) :: (new ++ (fe, oF') :: (stat ++ own))))
    (hm3 : ∀ p ∈ lookups src rl (.ref e) nm tn bl rt trt ip due, m3 p.1 = some p.2) (hdF : oF'.IsDictOf (strKind PySem.Challenge.rw_pq1410_01.row.prog w) kvs) (hlF : (fe == sysModules) = false) (hva : valueAt kvs nm = x) (hcell : Cell (new ++ (fe, oF') :: stat) x κ)
    (hno : ∀ p ∈ new, ∀ q ∈ own, q.1 ≠ p.1) (n1 : ∀ p ∈ new, p.1 ≠ src) (n2 : ∀ p ∈ new, p.1 ≠ l0) (n3 : ∀ p ∈ new, p.1 ≠ rl) (n4 : ∀ p ∈ new, p.1 ≠ dip)
    (w1 : ∀ p ∈ own, p.1 ≠ src) (w2 : ∀ p ∈ own, p.1 ≠ l0) (w3 : ∀ p ∈ own, p.1 ≠ rl) (w4 : ∀ p ∈ own, p.1 ≠ dip) (w5 : ∀ p ∈ own, p.1 ≠ fe) (w6 : ∀ p ∈ own, ∀ q ∈ stat, p.1 ≠ q.1)
    (s1' : ∀ p ∈ stat, p.1 ≠ src) (s2' : ∀ p ∈ stat, p.1 ≠ l0) (s3' : ∀ p ∈ stat, p.1 ≠ rl) (s4' : ∀ p ∈ stat, p.1 ≠ dip) (f1 : ¬ (@Eq Nat src fe)) (f2 : ¬ (@Eq Nat l0 fe)) (f3 : ¬ (@Eq Nat rl fe)) (f4 : ¬ (@Eq Nat dip fe))
    (e1 : (e, instObj 167 de) ∈ stat) (e2 : (de, dictOf ee ne) ∈ stat) (g1 : getL "number" ee = some (some (.int k te))) (hk : 0 < k) (g2 : getL "parent" ee = some (some par)) (g3 : getL "frame" ee = some (some (.ref fe)))
    (hch : Chain w nm stat par (some (κs, due))) (hI : IntsAre rowsV rowsI) (hlen : rowsI.length = i) (hip : IpOk esI eb eg (i + 1)) (st : Stat stat ip dip eb bl rb rt) (hany : rowsI.any isStop = κs.any stops) (hr : r = (κ : Int)) (hκ : κ < 8) :
    InvEndG h₀ L (JJ w nm tn trt due src l0 rl ip dip eb eg bl rb rt (i + 1)) own s1 { s1 with heap := h9, toks := tk9 } := by
  have hs : ∀ p ∈ stat, p ∈ new ++ (fe, oF') :: stat := fun p hp => List.mem_append_right _ (.tail _ hp)
  refine ⟨h9, tk9, _, _, (src, so') :: (l0, lo') :: (rl, listOf (rowsV.toArray.push (.int r t)) (nr + 1)) :: (dip, dictOf esI nI) :: (new ++ (fe, oF') :: stat), rfl, F4, N4, subOwn, ownIn, ?_, ?_⟩
  · intro p hp b hb
    obtain ⟨q, hq, rfl⟩ := List.mem_map.mp hb
    simp only [List.mem_cons, List.mem_append] at hq
    rcases hq with rfl | rfl | rfl | rfl | h | rfl | h
    · exact w1 p hp
    · exact w2 p hp
    · exact w3 p hp
    · exact w4 p hp
    · exact hno q h p hp
    · exact w5 p hp
    · exact w6 p hp q h
  · refine ⟨so', lo', rowsV ++ [.int r t], rowsI ++ [r], nr + 1, nI, esI, new ++ (fe, oF') :: stat, .ref e, by rw [List.push_toArray], hT', IntsAre.append hI (.cons _ _ .nil), by simp [hlen], hip, ?_, ?_, ?_, ?_, ?_, .inr ⟨Nat.succ_pos _, κ :: κs, e, rfl, st.mono hs, ?_, ?_⟩⟩
    · exact offApp n1 (List.forall_mem_cons.mpr ⟨fun q => f1 q.symm, s1'⟩)
    · exact offApp n2 (List.forall_mem_cons.mpr ⟨fun q => f2 q.symm, s2'⟩)
    · exact offApp n3 (List.forall_mem_cons.mpr ⟨fun q => f3 q.symm, s3'⟩)
    · exact offApp n4 (List.forall_mem_cons.mpr ⟨fun q => f4 q.symm, s4'⟩)
    · intro p hp
      show (if p.1 = Str.ofString "kind" then some (Value.int r t) else m3 p.1) = _
      rw [if_neg (names_ne p hp)]
      exact hm3 p hp
    · exact Chain.cons (hs _ e1) (hs _ e2) g1 hk g2 g3 (List.mem_append_right _ (.head _)) hdF hlF hva hcell (hch.mono hs)
    · rw [List.any_append, hany, List.any_cons, List.any_cons, List.any_nil, hr, stop_is hκ, Bool.or_false, Bool.or_comm]

local macro_rules | `(tactic| walk_at "execs cons") => `(tactic| ((with_reducible show wpAny _ _ (execs (Stmt.Assign [Expr.Name (Str.ofString "kind") _] _ _ :: _) _) _ _ _); refine halt ?_))
local macro_rules | `(tactic| walk_at "call ref") => `(tactic| (k_here; (show wpAny _ _ (call (Value.ref 235) _) _ _ _); refine halt ?_))

local macro_rules | `(tactic| k_all) => `(tactic| first | exact List.forall_mem_nil _ | (refine' List.forall_mem_cons.mpr ⟨?a, ?b⟩; (case a => k_ne); (case b => k_all)) | assumption)
theorem tn1 : ∀ {w : World} {dp un : Nat} {gd : Option (List Code)} {a : Addr} {ccd : Value} {outer : List Env} {A₀ : Around} {base h₀ : Heap} {L : Addr} {m : Str → Option Value} {s : Shared} {h : Heap} {tk : Nat} {Q : Flow → Shared → Prop}
    {mean : ExcName → Option Value} {mg mb : Str → Option Value} {src l0 rl ip dip eb eg bl rb : Addr} {nm : Str} {tn trt : Tok} {rt : Int} {due : Bool} {i : Nat} {t : Tok} {nx own : List (Addr × Obj)}
    (B : Below A₀ base outer h₀) (X : (hd.heap_39 w.params).In h₀) (T : Top q (looseW q []) mean mg mb h₀) (hd : dp + 100 < recursionLimit) (hu : un + 1000 < cLine) (d_src_l0 : ¬ (@Eq Nat src l0)) (d_src_rl : ¬ (@Eq Nat src rl)) (d_src_dip : ¬ (@Eq Nat src dip)) (d_l0_rl : ¬ (@Eq Nat l0 rl)) (d_l0_dip : ¬ (@Eq Nat l0 dip)) (d_rl_dip : ¬ (@Eq Nat rl dip)) (hipd : ¬ (@Eq Nat ip dip))
    (hi : i < 3) (hoff : ∀ p ∈ own, ∀ q ∈ nx, p.1 ≠ q.1) (hJ : JJ w nm tn trt due src l0 rl ip dip eb eg bl rb rt i m nx) (F : Fr h₀ L h (fun y => if y = Str.ofString "at" then some (.int (0 + (i : Int)) t) else m y)) (N : News h₀ L h (nx ++ own)),
    wpAny (model PySem.Challenge.rw_pq1410_01.row.prog w) (ktrTop dp un gd (Str.ofString "law") lawScope L a ccd [] outer) (execs forBody (envOf (Str.ofString "law") lawScope L a ccd)) (InvPostG h₀ L (JJ w nm tn trt due src l0 rl ip dip eb eg bl rb rt (i + 1)) own { s with heap := h, toks := tk } Q) (fun _ _ => False) { s with heap := h, toks := tk } := by
  k_fill
  w_top off
  intro w dp un gd a ccd outer A₀ base h₀ L m s h tk Q mean mg mb src l0 rl ip dip eb eg bl rb nm tn trt rt due i t nx own B X T hd hu d_src_l0 d_src_rl d_src_dip d_l0_rl d_l0_dip d_rl_dip hipd hi hoff hJ F N
  obtain ⟨so, lo, rowsV, rowsI, nr, nI, esI, imm, v, rfl, hT, hI, hlen, ⟨p1, p2, p3, p4, kk, tkk, p5, p6, p7⟩, o1, o2, o3, o4, hm, hor⟩ := hJ
  have hrl : rowsV.length ≤ 100 := by have := hI.length; omega
  have hm0 := map_of hm
  rw [hm0] at F
  dsimp only [kstB] at F
  have hsc : lawScope = ⟨_, _, _, _, _⟩ := rfl
  rw [hsc]
  have w1 : ∀ p ∈ own, p.1 ≠ src := fun p hp => hoff p hp _ (.head _)
  have w2 : ∀ p ∈ own, p.1 ≠ l0 := fun p hp => hoff p hp _ (.tail _ (.head _))
  have w3 : ∀ p ∈ own, p.1 ≠ rl := fun p hp => hoff p hp _ (.tail _ (.tail _ (.head _)))
  have w4 : ∀ p ∈ own, p.1 ≠ dip := fun p hp => hoff p hp _ (.tail _ (.tail _ (.tail _ (.head _))))
  have wI : ∀ p ∈ own, ∀ q ∈ imm, p.1 ≠ q.1 := fun p hp q hq => hoff p hp _ (.tail _ (.tail _ (.tail _ (.tail _ hq))))
  show wpAny _ _ (execs (_ :: _ :: _ :: _ :: []) _) _ _ _
  rcases hor with ⟨hi0, fg, deg, oG, imm0, eeg, neg, tg, rfl, rfl, s5', f1, f2, st', e1, e2, ge3, ge4, e3, hch⟩ | ⟨hi0, κs, e0, rfl, st, hch, hany⟩
  · simp only [List.cons_append] at N
    have hri : rowsI = [] := List.eq_nil_of_length_eq_zero (by omega)
    have w5 : ∀ p ∈ own, p.1 ≠ fg := fun p hp => wI p hp _ (.head _)
    have w6 : ∀ p ∈ own, ∀ q ∈ imm0, p.1 ≠ q.1 := fun p hp q hq => wI p hp q (.tail _ hq)
    have s1' : ∀ p ∈ imm0, p.1 ≠ src := fun p hp => o1 p (.tail _ hp)
    have s2' : ∀ p ∈ imm0, p.1 ≠ l0 := fun p hp => o2 p (.tail _ hp)
    have s3' : ∀ p ∈ imm0, p.1 ≠ rl := fun p hp => o3 p (.tail _ hp)
    have s4' : ∀ p ∈ imm0, p.1 ≠ dip := fun p hp => o4 p (.tail _ hp)
    have ds_fe : ¬ (@Eq Nat src fg) := fun q => o1 _ (.head _) q.symm
    have dl_fe : ¬ (@Eq Nat l0 fg) := fun q => o2 _ (.head _) q.symm
    have dr_fe : ¬ (@Eq Nat rl fg) := fun q => o3 _ (.head _) q.symm
    have dd_fe : ¬ (@Eq Nat dip fg) := fun q => o4 _ (.head _) q.symm
    have p2' := p2
    k_steps
    rename Fr h₀ L _ _ => F3
    rename News h₀ L _ _ => N3
    unfold Halt
    obtain ⟨vsb, nbl, b1, b4⟩ := st'.bs
    obtain ⟨drb, er, nrb, κb, tκ, c1, c2, c3, c4, c5, c6⟩ := st'.rb
    refine rw1 (stat := imm0) (own := own) (trt := trt) (tn := tn) (so := so) (lo := lo) B F3 X N3 T (room hd rfl) (room hu rfl) hT d_src_l0 d_src_rl d_src_dip ds_fe d_l0_rl d_l0_dip dl_fe d_rl_dip dr_fe dd_fe (offApp s1' w1) (offApp s2' w2) (offApp s3' w3) (offApp s4' w4) (offApp s5' w5) (by (repeat' (first | exact List.forall_mem_nil _ | refine List.forall_mem_cons.mpr ⟨rfl, ?_⟩))) hrl e1 e2 e3 f1 f2 st'.i1 p2' b1 st'.r0 st'.r3 b4 c1 c2 c3 c4 c5 c6 ?_
    intro r κ tr9 so' lo' oF' new kvs x h9 tk9 hr hκ hT' F4 N4 hdF hva hcell hno n1 n2 n3 n4
    show InvEndG h₀ L (JJ w nm tn trt due src l0 rl ip dip eb eg bl rb rt (i + 1)) own { s with heap := h, toks := tk } _
    exact row_end hT' F4 N4 (by (repeat' (first | exact List.forall_mem_nil _ | refine List.forall_mem_cons.mpr ⟨rfl, ?_⟩))) hdF f2 hva hcell hno n1 n2 n3 n4 w1 w2 w3 w4 w5 w6 s1' s2' s3' s4' ds_fe dl_fe dr_fe dd_fe e1 e2 ge3 (by decide) ge4 e3 hch hI hlen ⟨p1, p2, p3, by omega, kk, tkk, p5, p6, by omega⟩ st' (by rw [hri]; rfl) hr hκ
  · simp only [List.cons_append] at N
    have i1' := List.mem_append_left own st.i1
    have o4' := offApp o4 w4
    k_steps
    rename Fr h₀ L _ _ => F2
    rename News h₀ L _ _ => N2
    unfold Halt
    refine ne2 (v := .ref e0) B F2 X N2 T rfl (room hd rfl) (room hu rfl) (by intro o'; k_upd) (by k_mem) p5 (by omega) (by omega) (by omega) hipd (.inr ⟨_, rfl⟩) ?_
    intro e de fe esE es' nE n' oF t2 h' tk' F' N' f1 f2 hlt l1 l2 g1 g2 e3 tr g4 z'
    clear F2 N2
    have a1 : @LT.lt Nat _ src de := hlt _ (.head _)
    have a2 : @LT.lt Nat _ l0 de := hlt _ (.tail _ (.head _))
    have a3 : @LT.lt Nat _ rl de := hlt _ (.tail _ (.tail _ (.head _)))
    have a4 : @LT.lt Nat _ dip de := hlt _ (.tail _ (.tail _ (.tail _ (.head _))))
    have a5 : ∀ p ∈ imm, @LT.lt Nat _ p.1 de := fun p hp => hlt p (.tail _ (.tail _ (.tail _ (.tail _ (List.mem_append_left _ hp)))))
    have a6 : ∀ p ∈ own, @LT.lt Nat _ p.1 de := fun p hp => hlt p (.tail _ (.tail _ (.tail _ (.tail _ (List.mem_append_right _ hp)))))
    k_steps
    rename Fr h₀ L _ _ => F3
    rename News h₀ L _ _ => N3'
    have N3 := newsSub N3' permT
    unfold Halt
    have sub2 : ∀ p ∈ imm, p ∈ (e, instObj 167 de) :: (de, dictOf esE nE) :: imm := fun p hp => .tail _ (.tail _ hp)
    have st' := st.mono sub2
    have e1 : (e, instObj 167 de) ∈ (e, instObj 167 de) :: (de, dictOf esE nE) :: imm := .head _
    have e2 : (de, dictOf esE nE) ∈ (e, instObj 167 de) :: (de, dictOf esE nE) :: imm := .tail _ (.head _)
    have s1' : ∀ p ∈ (e, instObj 167 de) :: (de, dictOf esE nE) :: imm, p.1 ≠ src := List.forall_mem_cons.mpr ⟨Nat.ne_of_gt (Nat.lt_trans a1 l1), List.forall_mem_cons.mpr ⟨Nat.ne_of_gt a1, o1⟩⟩
    have s2' : ∀ p ∈ (e, instObj 167 de) :: (de, dictOf esE nE) :: imm, p.1 ≠ l0 := List.forall_mem_cons.mpr ⟨Nat.ne_of_gt (Nat.lt_trans a2 l1), List.forall_mem_cons.mpr ⟨Nat.ne_of_gt a2, o2⟩⟩
    have s3' : ∀ p ∈ (e, instObj 167 de) :: (de, dictOf esE nE) :: imm, p.1 ≠ rl := List.forall_mem_cons.mpr ⟨Nat.ne_of_gt (Nat.lt_trans a3 l1), List.forall_mem_cons.mpr ⟨Nat.ne_of_gt a3, o3⟩⟩
    have s4' : ∀ p ∈ (e, instObj 167 de) :: (de, dictOf esE nE) :: imm, p.1 ≠ dip := List.forall_mem_cons.mpr ⟨Nat.ne_of_gt (Nat.lt_trans a4 l1), List.forall_mem_cons.mpr ⟨Nat.ne_of_gt a4, o4⟩⟩
    have s5' : ∀ p ∈ (e, instObj 167 de) :: (de, dictOf esE nE) :: imm, p.1 ≠ fe := List.forall_mem_cons.mpr ⟨Nat.ne_of_lt l2, List.forall_mem_cons.mpr ⟨Nat.ne_of_lt (Nat.lt_trans l1 l2), fun p hp => Nat.ne_of_lt (Nat.lt_trans (a5 p hp) (Nat.lt_trans l1 l2))⟩⟩
    have w5 : ∀ p ∈ own, p.1 ≠ fe := fun p hp => Nat.ne_of_lt (Nat.lt_trans (a6 p hp) (Nat.lt_trans l1 l2))
    have w6 : ∀ p ∈ own, ∀ q ∈ (e, instObj 167 de) :: (de, dictOf esE nE) :: imm, p.1 ≠ q.1 := fun p hp => List.forall_mem_cons.mpr ⟨Nat.ne_of_lt (Nat.lt_trans (a6 p hp) l1), List.forall_mem_cons.mpr ⟨Nat.ne_of_lt (a6 p hp), fun q hq => wI p hp q hq⟩⟩
    have ds_fe : ¬ (@Eq Nat src fe) := Nat.ne_of_lt (Nat.lt_trans a1 (Nat.lt_trans l1 l2))
    have dl_fe : ¬ (@Eq Nat l0 fe) := Nat.ne_of_lt (Nat.lt_trans a2 (Nat.lt_trans l1 l2))
    have dr_fe : ¬ (@Eq Nat rl fe) := Nat.ne_of_lt (Nat.lt_trans a3 (Nat.lt_trans l1 l2))
    have dd_fe : ¬ (@Eq Nat dip fe) := Nat.ne_of_lt (Nat.lt_trans a4 (Nat.lt_trans l1 l2))
    have p2' := tr _ _ (by decide) p2
    obtain ⟨vsb, nbl, b1, b4⟩ := st'.bs
    obtain ⟨drb, er, nrb, κb, tκ, c1, c2, c3, c4, c5, c6⟩ := st'.rb
    refine rw1 (stat := (e, instObj 167 de) :: (de, dictOf esE nE) :: imm) (own := own) (trt := trt) (tn := tn) (so := so) (lo := lo) B F3 X N3 T (room hd rfl) (room hu rfl) hT d_src_l0 d_src_rl d_src_dip ds_fe d_l0_rl d_l0_dip dl_fe d_rl_dip dr_fe dd_fe (offApp s1' w1) (offApp s2' w2) (offApp s3' w3) (offApp s4' w4) (offApp s5' w5) (by (repeat' (first | exact List.forall_mem_nil _ | refine List.forall_mem_cons.mpr ⟨rfl, ?_⟩))) hrl e1 e2 e3 f1 f2 st'.i1 p2' b1 st'.r0 st'.r3 b4 c1 c2 c3 c4 c5 c6 ?_
    intro r κ tr9 so' lo' oF' new kvs x h9 tk9 hr hκ hT' F4 N4 hdF hva hcell hno n1 n2 n3 n4
    show InvEndG h₀ L (JJ w nm tn trt due src l0 rl ip dip eb eg bl rb rt (i + 1)) own { s with heap := h, toks := tk } _
    exact row_end hT' F4 N4 (by (repeat' (first | exact List.forall_mem_nil _ | refine List.forall_mem_cons.mpr ⟨rfl, ?_⟩))) hdF f2 hva hcell hno n1 n2 n3 n4 w1 w2 w3 w4 w5 w6 s1' s2' s3' s4' ds_fe dl_fe dr_fe dd_fe e1 e2 g1 p6 g2 e3 (hch.mono sub2) hI hlen ⟨tr _ _ (by decide) p1, p2', tr _ _ (by decide) p3, by omega, kk + 1, t2, g4, by omega, by omega⟩ st' hany hr hκ
end
section

theorem jj_done {w : World} {nm : Str} {tn trt : Tok} {due : Bool} {src l0 rl ip dip eb eg bl rb : Addr} {rt : Int} {i : Nat} {m : Str → Option Value} {nx : List (Addr × Obj)} (hJ : JJ w nm tn trt due src l0 rl ip dip eb eg bl rb rt i m nx) :
    ∃ (rowsV : List Value) (rowsI : List Int) (nr nI : Nat) (esI : List DictEntry) (v : Value) (κs : List Nat), (rl, listOf rowsV.toArray nr) ∈ nx ∧ (dip, dictOf esI nI) ∈ nx ∧ IntsAre rowsV rowsI ∧ rowsI.length = i ∧ getL "base" esI = some (some (.ref eb)) ∧ (∀ p ∈ lookups src rl v nm tn bl rt trt ip due, m p.1 = some p.2) ∧
      Stat nx ip dip eb bl rb rt ∧ Chain w nm nx v (some (κs, due)) ∧ rowsI.any isStop = κs.any stops := by
  obtain ⟨so, lo, rowsV, rowsI, nr, nI, esI, imm, v, rfl, hT, hI, hlen, hip, o1, o2, o3, o4, hm, hor⟩ := hJ
  have sb : ∀ p ∈ imm, p ∈ (src, so) :: (l0, lo) :: (rl, listOf rowsV.toArray nr) :: (dip, dictOf esI nI) :: imm := fun p hp => .tail _ (.tail _ (.tail _ (.tail _ hp)))
  rcases hor with ⟨hi0, fg, deg, oG, imm0, eeg, neg, tg, rfl, rfl, s5', f1, f2, st', e1, e2, ge3, ge4, e3, hch⟩ | ⟨hi0, κs, e0, rfl, st, hch, hany⟩
  · have hri : rowsI = [] := List.eq_nil_of_length_eq_zero (by omega)
    have sb0 : ∀ p ∈ imm0, p ∈ (src, so) :: (l0, lo) :: (rl, listOf rowsV.toArray nr) :: (dip, dictOf esI nI) :: (fg, oG) :: imm0 := fun p hp => sb p (.tail _ hp)
    exact ⟨rowsV, rowsI, nr, nI, esI, .ref eg, [0], .tail _ (.tail _ (.head _)), .tail _ (.tail _ (.tail _ (.head _))), hI, hlen, hip.1, hm, st'.mono sb0,
      Chain.cons (sb0 _ e1) (sb0 _ e2) ge3 (by decide) ge4 e3 (sb _ (.head _)) f1 f2 rfl Cell.nil (hch.mono sb0), by rw [hri]; rfl⟩
  · exact ⟨rowsV, rowsI, nr, nI, esI, .ref e0, κs, .tail _ (.tail _ (.head _)), .tail _ (.tail _ (.tail _ (.head _))), hI, hlen, hip.1, hm, st.mono sb, hch.mono sb, hany⟩
theorem dn1 : ∀ {w : World} {dp un : Nat} {gd : Option (List Code)} {a : Addr} {ccd : Value} {outer : List Env} {A₀ : Around} {base h₀ : Heap} {L : Addr} {m : Str → Option Value} {s : Shared} {Q : Flow → Shared → Prop}
    {mean : ExcName → Option Value} {mg mb : Str → Option Value} {src l0 rl ip dip eb eg bl rb : Addr} {nm : Str} {tn trt : Tok} {rt : Int} {due : Bool} {i : Nat} {nx : List (Addr × Obj)}
    (B : Below A₀ base outer h₀) (F : Fr h₀ L s.heap m) (X : (hd.heap_39 w.params).In h₀) (N : News h₀ L s.heap nx) (T : Top q (looseW q []) mean mg mb h₀) (hd : dp + 100 < recursionLimit) (hu : un + 1000 < cLine)
    (hi : i ≤ 3) (hJ : JJ w nm tn trt due src l0 rl ip dip eb eg bl rb rt i m nx)
    (hQ : ∀ (m' : Str → Option Value) (news' : List (Addr × Obj)) (h' : Heap) (tk' : Nat), Fr h₀ L h' m' → News h₀ L h' news' → Q (.ret (.bool true)) { s with heap := h', toks := tk' }),
    wpAny (model PySem.Challenge.rw_pq1410_01.row.prog w) (ktrTop dp un gd (Str.ofString "law") lawScope L a ccd [] outer) (execs (lawBody.drop 15) (envOf (Str.ofString "law") lawScope L a ccd)) Q (fun _ _ => False) s := by
  intro w dp un gd a ccd outer A₀ base h₀ L m s Q mean mg mb src l0 rl ip dip eb eg bl rb nm tn trt rt due i nx B F X N T hd hu hi hJ hQ
  obtain ⟨rowsV, rowsI, nr, nI, esI, v, κs, r1, i2, hI, hlen, i3, hm, st, hch, hany⟩ := jj_done hJ
  obtain ⟨deb, eeb, neb, tb, b1, b2, b3⟩ := st.eb
  have k1 : ∀ p ∈ [(Str.ofString "rows", Value.ref rl)], m p.1 = some p.2 := fun p hp => hm p (by simp only [List.mem_cons, List.not_mem_nil, or_false] at hp; subst hp; exact .tail _ (.head _))
  have k2 : m (Str.ofString "env") = some v := hm (Str.ofString "env", v) (.tail _ (.tail _ (.head _)))
  have k3 : m (Str.ofString "name") = some (.str nm tn) := hm (Str.ofString "name", .str nm tn) (.tail _ (.tail _ (.tail _ (.head _))))
  have k4 : m (Str.ofString "interp") = some (.ref ip) := hm (Str.ofString "interp", .ref ip) (.tail _ (.tail _ (.tail _ (.tail _ (.tail _ (.tail _ (.head _)))))))
  have k5 : m (Str.ofString "due_here") = some (.bool due) := hm (Str.ofString "due_here", .bool due) (.tail _ (.tail _ (.tail _ (.tail _ (.tail _ (.tail _ (.tail _ (.head _))))))))
  have n2 : (Str.ofString "env" = Str.ofString "stopped") = False := by simp only [eq_iff_iff, iff_false]; decide
  have n3 : (Str.ofString "name" = Str.ofString "stopped") = False := by simp only [eq_iff_iff, iff_false]; decide
  have n4 : (Str.ofString "interp" = Str.ofString "stopped") = False := by simp only [eq_iff_iff, iff_false]; decide
  have n5 : (Str.ofString "due_here" = Str.ofString "stopped") = False := by simp only [eq_iff_iff, iff_false]; decide
  show wpAny _ _ (execs (lawBody.getD 15 (.Pass default) :: lawBody.drop 16) _) _ _ _
  refine wpAny_execs_cons (zs1 (Q := fun f s' => match f with | .next => wpAny _ _ (execs (lawBody.drop 16) _) Q _ s' | f => Q f s') B F X N T (room hd rfl) (room hu rfl) k1 r1 hI (by omega) ?_)
  intro h1 tk1 F1 N1
  show wpAny _ _ (execs (lawBody.getD 16 (.Pass default) :: lawBody.drop 17) _) _ _ _
  refine wpAny_execs_cons (zi1 (rl := rl) (nr := nr) (Q := fun f s' => match f with | .next => wpAny _ _ (execs (lawBody.drop 17) _) Q _ s' | f => Q f s') (st := rowsI.any isStop) (due := due) (tn := tn) B F1 X N1 T (room hd rfl) (room hu rfl) ?_ st.i1 i2 i3 b1 b2 b3 hch ?_ ?_)
  · refine List.forall_mem_cons.mpr ⟨?_, List.forall_mem_cons.mpr ⟨?_, List.forall_mem_cons.mpr ⟨?_, List.forall_mem_cons.mpr ⟨?_, List.forall_mem_cons.mpr ⟨?_, List.forall_mem_nil _⟩⟩⟩⟩⟩
    · simp
    · simp only [n2, if_false]; exact k2
    · simp only [n3, if_false]; exact k3
    · simp only [n4, if_false]; exact k4
    · simp only [n5, if_false]; exact k5
  · show goUp κs due = _
    rw [goUp_is, hany]
  · intro h2 tk2 F2 N2
    refine zw1 (E := fun _ _ => False) (tn := tn) B F2 X N2 T (room hd rfl) (room hu rfl) ?_ hch ?_
    · refine List.forall_mem_cons.mpr ⟨?_, List.forall_mem_cons.mpr ⟨?_, List.forall_mem_nil _⟩⟩
      · simp only [n2, if_false]; exact k2
      · simp only [n3, if_false]; exact k3
    · intro m' news' h' tk' F' N'
      exact hQ m' news' h' tk' F' N'
end
local macro_rules | `(tactic| k_all) => `(tactic| first | exact List.forall_mem_nil _ | (refine' List.forall_mem_cons.mpr ⟨?a, ?b⟩; (case a => k_ne); (case b => k_all)) | assumption | exact allLt_ne (by assumption))
section

local macro_rules | `(tactic| walk_at "call ref") => `(tactic| (k_here; (show wpAny _ _ (call (Value.ref 430) _) _ _ _); k_dflt (refine' take2 ?k1 ?k2 ?k3 ?k4 ?k5 ?kK ?kd ?ku ?U1 ?U2 ?hT ?ne ?m0 ?m1 ?_; (case k1 => k_asm); (case k2 => k_asm); (case k3 => k_asm); (case k4 => k_asm); (case k5 => k_asm); (case kK => exact rfl); (case kd => ktr_room); (case ku => ktr_units); (case hT => assumption); (case U1 => (intro o'; k_upd)); (case U2 => (intro o' o''; k_upd)); (case ne => first | assumption | k_ne); (case m0 => decide); (case m1 => decide); intro r' t' so' lo' h' tk' F' N' hT' hr0' hr1')))

local macro_rules | `(tactic| walk_at "exec For Name Call cons nil") => `(tactic| (k_here; (rename Fr _ _ _ _ => lF'); (with_unfolding_all refine' For_invVF lF' ?k1 ?k2 ?_; (case k1 => exact rfl); (case k2 => exact rfl); k_whole)))
local macro_rules | `(tactic| walk_at "pyIter ref") => `(tactic| ((with_reducible show wpAny _ _ (pyIter (Value.ref _)) (fun it s₂ => LoopAtV _ _ _ _ _ _ _ _ _ it s₂) _ _); refine halt ?_))

theorem permF {a b c d : Addr × Obj} {l : List (Addr × Obj)} : ∀ p ∈ a :: b :: c :: d :: l, p ∈ c :: a :: b :: d :: l := by
  intro p hp
  simp only [List.mem_cons] at hp ⊢
  rcases hp with h | h | h | h | h <;> simp [h]
theorem tl1 {w : World} {dp un : Nat} {gd : Option (List Code)} {a : Addr} {ccd : Value} {outer : List Env} {A₀ : Around} {base h₀ : Heap} {L : Addr} {m : Str → Option Value} {s : Shared} {Q : Flow → Shared → Prop}
    {mean : ExcName → Option Value} {mg mb : Str → Option Value} {src l0 rl ip dip eb eg bl rb : Addr} {nm : Str} {tn trt : Tok} {rt : Int} {due : Bool} {fg deg r : Addr} {tg t0 u0 v0 tkk : Tok} {bnd kk : Int} {so lo oG : Obj} {esI eeg : List DictEntry} {nI neg : Nat} {rest : List (Addr × Obj)}
    (B : Below A₀ base outer h₀) (F : Fr h₀ L s.heap m) (X : (hd.heap_39 w.params).In h₀) (N : News h₀ L s.heap ((rl, listOf #[] 0) :: (src, so) :: (l0, lo) :: (dip, dictOf esI nI) :: (fg, oG) :: rest)) (T : Top q (looseW q []) mean mg mb h₀) (hd : dp + 200 < recursionLimit) (hu : un + 2000 < cLine)
    (d_src_l0 : ¬ (@Eq Nat src l0)) (d_src_dip : ¬ (@Eq Nat src dip)) (d_l0_dip : ¬ (@Eq Nat l0 dip)) (d_src_fg : ¬ (@Eq Nat src fg)) (d_l0_fg : ¬ (@Eq Nat l0 fg)) (d_dip_fg : ¬ (@Eq Nat dip fg)) (hipd : ¬ (@Eq Nat ip dip)) (o1 : ∀ p ∈ rest, p.1 ≠ src) (o2 : ∀ p ∈ rest, p.1 ≠ l0) (o3 : ∀ p ∈ rest, p.1 ≠ dip) (o4 : ∀ p ∈ rest, p.1 ≠ fg) (o5 : AllLt rl rest) (a1 : @LT.lt Nat _ src rl) (a2 : @LT.lt Nat _ l0 rl) (a3 : @LT.lt Nat _ dip rl) (a4 : @LT.lt Nat _ fg rl)
    (hT : TakeOk l0 so lo) (p1 : getL "base" esI = some (some (.ref eb))) (p2 : getL "globals" esI = some (some (.ref eg))) (p3 : getL "new_env" esI = some none) (p4 : esI.length ≤ 50 + 0) (p5 : getL "next_number" esI = some (some (.int kk tkk))) (p6 : 0 < kk) (p7 : kk ≤ 10 + ((0 : Nat) : Int)) (hm : ∀ p ∈ lookups src rl (.ref eg) nm tn bl rt trt ip due, m p.1 = some p.2)
    (f1 : oG.IsDictOf (strKind PySem.Challenge.rw_pq1410_01.row.prog w) []) (f2 : (fg == sysModules) = false) (st : Stat rest ip dip eb bl rb rt) (e1 : (eg, instObj 167 deg) ∈ rest) (e2 : (deg, dictOf eeg neg) ∈ rest) (g1 : getL "number" eeg = some (some (.int 1 tg))) (g2 : getL "parent" eeg = some (some (.ref eb))) (g3 : getL "frame" eeg = some (some (.ref fg))) (hch : Chain w nm rest (.ref eb) (some ([], due)))
    (hR : IsRange s.heap r 0 bnd 1 t0 u0 v0) (hb0 : 0 ≤ bnd) (hb1 : bnd ≤ 3)
    (done : ∀ (m₁ : Str → Option Value) (nx : List (Addr × Obj)) (h : Heap) (tk : Nat) (i : Nat), i ≤ 3 → JJ w nm tn trt due src l0 rl ip dip eb eg bl rb rt i m₁ nx → Fr h₀ L h m₁ → News h₀ L h nx → Q .next { s with heap := h, toks := tk }) :
    wpAny (model PySem.Challenge.rw_pq1410_01.row.prog w) (ktrTop dp un gd (Str.ofString "law") lawScope L a ccd [] outer) (pyIter (.ref r)) (fun it s₂ => LoopAtV PySem.Challenge.rw_pq1410_01.row.prog w (ktrTop dp un gd (Str.ofString "law") lawScope L a ccd [] outer) h₀ (envOf (Str.ofString "law") lawScope L a ccd) (Str.ofString "at") forBody Q (fun _ _ => False) it s₂) (fun _ _ => False) s := by
  refine range_inv (JJ w nm tn trt due src l0 rl ip dip eb eg bl rb rt) rfl hR (small_one (by decide) (by decide) (by omega) (by omega)) (rangeSize_nat _ _) F (newsSub N permF) ?_ ?_ ?_
  · exact ⟨_, _, [], [], 0, nI, esI, (fg, oG) :: rest, .ref eg, rfl, hT, .nil, rfl, ⟨p1, p2, p3, p4, kk, tkk, p5, p6, p7⟩, List.forall_mem_cons.mpr ⟨fun q => d_src_fg q.symm, o1⟩, List.forall_mem_cons.mpr ⟨fun q => d_l0_fg q.symm, o2⟩, List.forall_mem_cons.mpr ⟨Nat.ne_of_lt a4, allLt_ne o5⟩, List.forall_mem_cons.mpr ⟨fun q => d_dip_fg q.symm, o3⟩, hm, .inl ⟨rfl, fg, deg, oG, rest, eeg, neg, tg, rfl, rfl, o4, f1, f2, st, e1, e2, g1, g2, g3, hch⟩⟩
  · intro i t m₁ nx h9 tk9 own hi hoff hJ F9 N9
    exact tn1 B X T (room hd rfl) (room hu rfl) d_src_l0 (Nat.ne_of_lt a1) d_src_dip (Nat.ne_of_lt a2) d_l0_dip (Nat.ne_of_gt a3) hipd (by omega) hoff hJ F9 N9
  · intro m₁ nx h9 tk9 hJ F9 N9
    exact done m₁ nx h9 tk9 _ (by omega) hJ F9 N9
theorem tt1 : ∀ {w : World} {dp un : Nat} {gd : Option (List Code)} {a : Addr} {ccd : Value} {outer : List Env} {A₀ : Around} {base h₀ : Heap} {L : Addr} {m : Str → Option Value} {s : Shared} {Q : Flow → Shared → Prop}
    {mean : ExcName → Option Value} {mg mb : Str → Option Value} {src l0 ip dip eb eg bl rb fg deg : Addr} {nm : Str} {tn trt tg : Tok} {rt : Int} {due : Bool} {so lo oG : Obj} {esI eeg : List DictEntry} {nI neg : Nat} {rest : List (Addr × Obj)}
    (B : Below A₀ base outer h₀) (F : Fr h₀ L s.heap m) (X : (hd.heap_39 w.params).In h₀) (N : News h₀ L s.heap ((src, so) :: (l0, lo) :: (dip, dictOf esI nI) :: (fg, oG) :: rest)) (T : Top q (looseW q []) mean mg mb h₀) (hd : dp + 200 < recursionLimit) (hu : un + 2000 < cLine)
    (d_src_l0 : ¬ (@Eq Nat src l0)) (d_src_dip : ¬ (@Eq Nat src dip)) (d_l0_dip : ¬ (@Eq Nat l0 dip)) (d_src_fg : ¬ (@Eq Nat src fg)) (d_l0_fg : ¬ (@Eq Nat l0 fg)) (d_dip_fg : ¬ (@Eq Nat dip fg)) (hipd : ¬ (@Eq Nat ip dip)) (o1 : ∀ p ∈ rest, p.1 ≠ src) (o2 : ∀ p ∈ rest, p.1 ≠ l0) (o3 : ∀ p ∈ rest, p.1 ≠ dip) (o4 : ∀ p ∈ rest, p.1 ≠ fg)
    (hT : TakeOk l0 so lo) (hip : IpOk esI eb eg 0) (hm : ∀ p ∈ [(Str.ofString "source", Value.ref src), (Str.ofString "name", Value.str nm tn), (Str.ofString "bodies", Value.ref bl), (Str.ofString "right", Value.int rt trt), (Str.ofString "interp", Value.ref ip), (Str.ofString "due_here", Value.bool due)], m p.1 = some p.2)
    (f1 : oG.IsDictOf (strKind PySem.Challenge.rw_pq1410_01.row.prog w) []) (f2 : (fg == sysModules) = false) (st : Stat rest ip dip eb bl rb rt) (e1 : (eg, instObj 167 deg) ∈ rest) (e2 : (deg, dictOf eeg neg) ∈ rest) (g1 : getL "number" eeg = some (some (.int 1 tg))) (g2 : getL "parent" eeg = some (some (.ref eb))) (g3 : getL "frame" eeg = some (some (.ref fg))) (hch : Chain w nm rest (.ref eb) (some ([], due)))
    (hQ : ∀ (m' : Str → Option Value) (news' : List (Addr × Obj)) (h' : Heap) (tk' : Nat), Fr h₀ L h' m' → News h₀ L h' news' → Q (.ret (.bool true)) { s with heap := h', toks := tk' }),
    wpAny (model PySem.Challenge.rw_pq1410_01.row.prog w) (ktrTop dp un gd (Str.ofString "law") lawScope L a ccd [] outer) (execs (lawBody.drop 12) (envOf (Str.ofString "law") lawScope L a ccd)) Q (fun _ _ => False) s := by
  k_fill
  w_top off
  intro w dp un gd a ccd outer A₀ base h₀ L m s Q mean mg mb src l0 ip dip eb eg bl rb fg deg nm tn trt tg rt due so lo oG esI eeg nI neg rest B F X N T hd hu d_src_l0 d_src_dip d_l0_dip d_src_fg d_l0_fg d_dip_fg hipd o1 o2 o3 o4 hT hip hm f1 f2 st e1 e2 g1 g2 g3 hch hQ
  obtain ⟨p1, p2, p3, p4, kk, tkk, p5, p6, p7⟩ := hip
  have hm0 := map_of hm
  rw [hm0] at F
  dsimp only [kstB] at F
  have hsc : lawScope = ⟨_, _, _, _, _⟩ := rfl
  rw [hsc]
  have i1 := st.i1
  show wpAny _ _ (execs (_ :: _ :: _ :: _ :: _ :: _ :: _ :: []) _) _ _ _
  k_steps
  all_goals (
    rename IsRange _ _ _ _ _ _ _ _ => hR
    rename Fr h₀ L _ _ => F1
    rename News h₀ L _ _ => N1
    rename TakeOk _ _ _ => hT1
    rename AllLt _ rest => hlt
    unfold Halt
    refine tl1 (trt := trt) (tn := tn) (rb := rb) B F1 X N1 T hd hu d_src_l0 d_src_dip d_l0_dip d_src_fg d_l0_fg d_dip_fg hipd o1 o2 o3 o4 hlt (by assumption) (by assumption) (by assumption) (by assumption) hT1 p1 p2 p3 p4 p5 p6 p7 (by (repeat' (first | exact List.forall_mem_nil _ | refine List.forall_mem_cons.mpr ⟨rfl, ?_⟩))) f1 f2 st e1 e2 g1 g2 g3 hch hR (by omega) (by omega) ?_
    intro m₁ nx h9 tk9 i hi hJ F9 N9
    exact dn1 (Q := Q) B F9 X N9 T (room hd rfl) (room hu rfl) hi hJ (fun m' news' h' tk' F' N' => hQ m' news' h' tk' F' N'))
end
section

local macro_rules | `(tactic| k_enter) => `(tactic| (refine' code_def ?k1 ?k2 ?k3 ?k4 ?k5 ?kA ?kF ?kK ?k6 ?k7 ?k8 ?k9 ?kB ?_ ?c2 ?c3 ?c4 ?c5; (case kA => exact rfl); (case kF => exact rfl); (case kK => assumption); (case k1 => k_asm); (case k2 => k_asm); (case k3 => k_asm); (case k4 => k_asm); (case k5 => k_asm); (case k6 => k_is); (case k7 => k_is); (case k8 => ktr_room); (case k9 => first | exact BindsTo.of_eq rfl | exact binds_K (by k_in) rfl (by k_is) rfl rfl rfl); (case c5 => decide); (case kB => exact locs rfl); (case c2 => exact rfl); (case c3 => exact rfl); (case c4 => exact rfl); k_whole; intro g' L' h' FG' F' N' B' X' T'; (try dsimp only); (try k_fold)))

theorem set_opN {prog : Program} {w : World} {A : Around} {E : Value → Shared → Prop} {s : Shared} {K : Frag} {x C dx L : Addr} {h₀ : Heap} {m : Str → Option Value} {news : List (Addr × Obj)} {news' : List DictEntry → Nat → List (Addr × Obj)} {ox : Obj} {es : List DictEntry} {n c : Nat} {name : Str} {v : Value} {x0 : Option Value}
    {Q : Unit → Shared → Prop} (F : Fr h₀ L s.heap m) (X₀ : K.In h₀) (N : News h₀ L s.heap news) (I : InstAt s.heap x ox C (some (dictOf es n))) (hd : ox.dict = some dx)
    (hs : findIn K (.ref C) "__setattr__" = some (some (.builtin "object.__setattr__"))) (hp : plainOver K C = true) (ht : takerIn K C name = some none) (hh : hasDictIn K C = true) (hl : getL name es = some x0)
    (U : ∀ es' n', Upd dx (dictOf es n) (dictOf es' n') news (news' es' n')) (hz : es.length ≤ c) (hc : Nat.ble c 99 = true)
    (h : ∀ h' es' n', Fr h₀ L h' m → News h₀ L h' (news' es' n') → TrL es es' name → getL name es' = some (some v) → es'.length ≤ c + 1 → Q () { s with heap := h', toks := s.toks + 2 }) :
    wpAny (model prog w) A (setAttr (.ref x) name v) Q E s :=
  set_op F X₀ N I hd hs hp ht hh hl U (Nat.le_trans hz (Nat.le_trans (Nat.le_of_ble_eq_true hc) (by decide))) fun h' es' n' F' N' a b z => h h' es' n' F' N' a b (Nat.le_trans z (Nat.succ_le_succ hz))

local macro_rules | `(tactic| k_get) => `(tactic| first | assumption | exact TrL.get (by assumption) (by decide) (by k_get) | exact rfl)
local macro_rules | `(tactic| walk_at "setAttr ref") => `(tactic| (k_here; k_dflt (refine' set_opN ?k1 ?k2 ?k3 ?k4 ?k5 ?k6 ?k7 ?k8 ?k9 ?k10 ?k12 ?k13 ?k14 ?_; (case k1 => k_asm); (case k2 => k_asm); (case k3 => k_asm); (case k4 => k_inst); (case k5 => exact rfl); (case k6 => k_is); (case k7 => k_is); (case k8 => k_is); (case k9 => k_is); (case k10 => k_get); (case k12 => (intro es' n'; k_upd)); (case k13 => first | assumption | exact Nat.le_refl _); (case k14 => exact rfl); k_whole; intro h' es' n' F' N' tr' g' z'; (try k_sweep))))
local macro_rules | `(tactic| walk_at "call ref") => `(tactic| (k_here; (show wpAny _ _ (call (Value.ref 235) _) _ _ _); k_dflt (refine' ne2 ?k1 ?k2 ?k3 ?k4 ?k5 ?kK ?kd ?ku ?U ?i1 ?g ?h0 ?h1 ?hl ?ne ?hv ?_; (case k1 => k_asm); (case k2 => k_asm); (case k3 => k_asm); (case k4 => k_asm); (case k5 => k_asm); (case kK => exact rfl); (case kd => ktr_room); (case ku => first | (simp only [units_deeper, units_in1, units_under_make]; omega) | ktr_units); (case i1 => k_mem); (case U => (intro o'; k_upd)); (case g => k_get); (case h0 => decide); (case h1 => decide); (case hl => exact Nat.le_trans (by assumption) (Nat.le_of_ble_eq_true rfl)); (case ne => k_ne); (case hv => first | exact .inl rfl | exact .inr ⟨_, rfl⟩); intro e' d' f' esE' es' nE' n' oF' t2' h' tk' F' N' f1' f2' hlt' l1' l2' g1' g2' g3' tr' g4' z'; (replace tr' : TrL _ _ _ := tr'); (replace z' := Nat.le_trans z' (Nat.succ_le_succ (by assumption))); (try dsimp only at N'); (k_lt hlt'); (try k_sweep))))

theorem subL {a : Addr × Obj} {l l' : List (Addr × Obj)} (h : a ∈ l') (r : ∀ p ∈ l, p ∈ l') : ∀ p ∈ a :: l, p ∈ l' := List.forall_mem_cons.mpr ⟨h, r⟩
theorem ev1 : ∀ {w : World} {dp un : Nat} {gd : Option (List Code)} {cn : Str} {cs : Scope} {a : Addr} {ccd : Value} {cl : List (Str × Addr)} {outer : List Env} {A₀ : Around} {base h₀ : Heap} {L : Addr} {m : Str → Option Value} {s : Shared} {Q E : Value → Shared → Prop}
    {mean : ExcName → Option Value} {mg mb : Str → Option Value} {news : List (Addr × Obj)}
    (B : Below A₀ base outer h₀) (F : Fr h₀ L s.heap m) (X : (hd.heap_39 w.params).In h₀) (N : News h₀ L s.heap news)
    (T : Top q (looseW q []) mean mg mb h₀) (hk : cs.kind = .function) (hd : dp + 30 < recursionLimit) (hu : un + 300 < cLine)
    (hQ : ∀ (ip dip eb deb fb eg deg fg : Addr) (esI eeb eeg : List DictEntry) (nI neb neg : Nat) (oB oG : Obj) (tb tg : Tok) (h' : Heap) (tk' : Nat), Fr h₀ L h' m →
      News h₀ L h' ((ip, instObj 419 dip) :: (dip, dictOf esI nI) :: (eb, instObj 167 deb) :: (deb, dictOf eeb neb) :: (fb, oB) :: (eg, instObj 167 deg) :: (deg, dictOf eeg neg) :: (fg, oG) :: news) → IpOk esI eb eg 0 →
      oB.IsDictOf (strKind PySem.Challenge.rw_pq1410_01.row.prog w) [] → (fb == sysModules) = false → oG.IsDictOf (strKind PySem.Challenge.rw_pq1410_01.row.prog w) [] → (fg == sysModules) = false →
      getL "number" eeb = some (some (.int 0 tb)) → getL "parent" eeb = some (some .none) → getL "frame" eeb = some (some (.ref fb)) →
      getL "number" eeg = some (some (.int 1 tg)) → getL "parent" eeg = some (some (.ref eb)) → getL "frame" eeg = some (some (.ref fg)) →
      (∀ p ∈ news, p.1 < dip) → @LT.lt Nat _ dip ip → @LT.lt Nat _ ip deb → @LT.lt Nat _ deb eb → @LT.lt Nat _ eb fb → @LT.lt Nat _ fb deg → @LT.lt Nat _ deg eg → @LT.lt Nat _ eg fg → Q (.ref ip) { s with heap := h', toks := tk' }),
    wpAny (model PySem.Challenge.rw_pq1410_01.row.prog w) (ktrTop dp un gd cn cs L a ccd cl outer) (call (.ref 419) []) Q E s := by
  k_fill
  w_top off
  intro w dp un gd cn cs a ccd cl outer A₀ base h₀ L m s Q E mean mg mb news B F X N T hk hd hu hQ
  k_steps
  rename Fr h₀ L _ m => eF
  rename News h₀ L _ _ => eN
  refine' hQ _ _ _ _ _ _ _ _ _ _ _ _ _ _ _ _ _ _ _ _ eF (newsSub eN (subL ?m1 (subL ?m2 (subL ?m3 (subL ?m4 (subL ?m5 (subL ?m6 (subL ?m7 (subL ?m8 ?m9))))))))) ⟨?q1, ?q2, ?q3, ?q4, _, _, ?q5, ?q6, ?q7⟩ ?d1 ?d2 ?d3 ?d4 ?b1 ?b2 ?b3 ?g1 ?g2 ?g3 ?z0 ?z1 ?z2 ?z3 ?z4 ?z5 ?z6 ?z7
  case m1 => k_mem
  case m2 => k_mem
  case q1 => k_get
  case q2 => k_get
  case q3 => k_get
  case q4 => exact Nat.le_trans (by assumption) (Nat.le_of_ble_eq_true rfl)
  case q5 => k_get
  case q6 => decide
  case q7 => decide
  case m3 => k_mem
  case b1 => assumption
  case m4 => k_mem
  case b2 => assumption
  case b3 => assumption
  case m5 => k_mem
  case m6 => k_mem
  case g1 => assumption
  case m7 => k_mem
  case g2 => assumption
  case g3 => assumption
  case m8 => k_mem
  case m9 => repeat' (first | exact sub0 | refine sub1 ?_)
  case d1 => assumption
  case d2 => assumption
  case d3 => assumption
  case d4 => assumption
  case z0 => exact fun p hp => tb_ltOf (by assumption) p hp
  case z1 => assumption
  case z3 => assumption
  case z4 => assumption
  case z6 => assumption
  case z7 => assumption
  all_goals (first | assumption | omega)
end
local macro_rules | `(tactic| walk_at "subscriptTail Name Name ref int") => `(tactic| (k_here; (with_reducible show wpAny _ _ (subscriptTail _ _ (Value.ref _) (Value.int _ _)) _ _ _); k_dflt (refine' my_item ?k1 ?k2 ?k3 ?k4 ?_ ?k6; (case k1 => exact isListOf (by k_asm) (by k_mem)); (case k2 => assumption); (case k3 => omega); (case k4 => assumption); (case k6 => with_unfolding_all rfl); k_whole)))
local macro_rules | `(tactic| walk_at "setItem ref str") => `(tactic| (k_here; k_dflt (refine' kda_set (knd := PySem.strKind _ _) ?F ?N ?U ?d (strKind_is _ _ _ _) ?z ?_; (case F => k_asm); (case N => k_asm); (case U => k_updF); (case d => k_asm); (case z => (rw [sizeLine_eq]; exact Nat.le_of_ble_eq_true (by with_unfolding_all rfl)))); intro h' o' F' N' hd'; (try dsimp only at N')))
local macro_rules | `(tactic| walk_at "getItem ref str") => `(tactic| (k_here; k_dflt (refine kda_get (by k_asm) (by k_mem) (by k_asm) (by exact valueAt_one) ?_)))
local macro_rules | `(tactic| walk_at "call builtin:list.append") => `(tactic| (k_here; (with_reducible show wpAny _ _ (call (Value.builtin _) [Value.ref _, _]) _ _ _); k_dflt (refine' append_K ?k1 ?k2 ?k3 ?_ ?z; (case k1 => k_asm); (case k2 => k_asm); (case k3 => k_upd); (case z => exact rowsFit (by assumption)); k_whole); intro h' F' N'; (try k_sweep)))
section

/-- what a choice is -/
def Pick (nm : Str) (rest : List (Addr × Obj)) (form : Int) (vc : Value) : Prop :=
  (vc = .none ∧ form = 5) ∨
  (form = 4 ∧ ∃ (c dc : Addr) (ec : List DictEntry) (nc : Nat) (t : Tok), vc = .ref c ∧ (c, instObj 124 dc) ∈ rest ∧ (dc, dictOf ec nc) ∈ rest ∧ getL "kind" ec = some (some (.str (Str.ofString "closure") t))) ∨
  (form < 4 ∧ ∃ (c dc : Addr) (ec : List DictEntry) (nc : Nat) (κ nm' γ : Str) (t1 t2 t3 : Tok), vc = .ref c ∧ (c, instObj 145 dc) ∈ rest ∧ (dc, dictOf ec nc) ∈ rest ∧ getL "kind" ec = some (some (.str κ t1)) ∧ getL "name" ec = some (some (.str nm' t2)) ∧ getL "group" ec = some (some (.str γ t3)) ∧
    fnKind κ = true ∧ (κ == Str.ofString "promise") = false ∧ (κ == Str.ofString "missing") = false ∧ orig κ nm' γ nm = decide (form = 0))
theorem ne_self {a b : Bool} (h : a = b) (g : (a != b) = true) : False := by subst h; simp at g
theorem offC {a b : Addr} {o : Obj} {rest : List (Addr × Obj)} (h : ¬ (@Eq Nat a b)) (g : ∀ p ∈ rest, p.1 ≠ a) : ∀ p ∈ ((b, o) :: rest), p.1 ≠ a := List.forall_mem_cons.mpr ⟨fun e => h e.symm, g⟩

local macro_rules | `(tactic| walk_at "call ref") => `(tactic| (k_here; (show wpAny _ _ (call (Value.ref 213) [Value.ref _, Value.str _ _]) _ _ _); k_dflt (first
  | (refine' isor1 ?k1 ?k2 ?k3 ?k4 ?k5 ?kK ?kd ?ku ?m1 ?m2 ?g1 ?g2 ?g3 ?_; (case k1 => k_asm); (case k2 => k_asm); (case k3 => k_asm); (case k4 => k_asm); (case k5 => k_asm); (case kK => exact rfl); (case m1 => k_mem); (case m2 => k_mem); (case g1 => assumption); (case g2 => assumption); (case g3 => assumption); (case kd => ktr_room); (case ku => ktr_units); intro h' tk' F' N')
  | (refine' isorC ?k1 ?k2 ?k3 ?k4 ?k5 ?kK ?kd ?ku ?m1 ?m2 ?g1 ?_; (case k1 => k_asm); (case k2 => k_asm); (case k3 => k_asm); (case k4 => k_asm); (case k5 => k_asm); (case kK => exact rfl); (case m1 => k_mem); (case m2 => k_mem); (case g1 => assumption); (case kd => ktr_room); (case ku => ktr_units); intro h' tk' F' N'))))

local macro_rules | `(tactic| walk_at "execs cons") => `(tactic| ((with_reducible show wpAny _ _ (execs (Stmt.Assign [Expr.Name (Str.ofString "env") _] _ _ :: _) _) _ _ _); refine halt ?_))

theorem ff1 : ∀ {w : World} {dp un : Nat} {gd : Option (List Code)} {a : Addr} {ccd : Value} {outer : List Env} {A₀ : Around} {base h₀ : Heap} {L : Addr} {m : Str → Option Value} {s : Shared} {Q : Flow → Shared → Prop}
    {mean : ExcName → Option Value} {mg mb : Str → Option Value} {src l0 ip dip eb deb fb eg deg fg bl rb cl : Addr} {nm : Str} {tn trt tf tg tb : Tok} {rt form : Int} {so lo oB oG : Obj} {esI eeb eeg : List DictEntry} {nI neb neg nC : Nat} {vsC : List Value} {rest : List (Addr × Obj)}
    (B : Below A₀ base outer h₀) (F : Fr h₀ L s.heap m) (X : (hd.heap_39 w.params).In h₀) (N : News h₀ L s.heap ((src, so) :: (l0, lo) :: (dip, dictOf esI nI) :: (fg, oG) :: (fb, oB) :: rest)) (T : Top q (looseW q []) mean mg mb h₀) (hd : dp + 300 < recursionLimit) (hu : un + 3000 < cLine)
    (d_src_l0 : ¬ (@Eq Nat src l0)) (d_src_dip : ¬ (@Eq Nat src dip)) (d_src_fg : ¬ (@Eq Nat src fg)) (d_src_fb : ¬ (@Eq Nat src fb)) (d_l0_dip : ¬ (@Eq Nat l0 dip)) (d_l0_fg : ¬ (@Eq Nat l0 fg)) (d_l0_fb : ¬ (@Eq Nat l0 fb)) (d_dip_fg : ¬ (@Eq Nat dip fg)) (d_dip_fb : ¬ (@Eq Nat dip fb)) (d_fg_fb : ¬ (@Eq Nat fg fb)) (hipd : ¬ (@Eq Nat ip dip)) (o_src : ∀ p ∈ rest, p.1 ≠ src) (o_l0 : ∀ p ∈ rest, p.1 ≠ l0) (o_dip : ∀ p ∈ rest, p.1 ≠ dip) (o_fg : ∀ p ∈ rest, p.1 ≠ fg) (o_fb : ∀ p ∈ rest, p.1 ≠ fb)
    (hT : TakeOk l0 so lo) (hip : IpOk esI eb eg 0) (hm : ∀ p ∈ [(Str.ofString "source", Value.ref src), (Str.ofString "name", Value.str nm tn), (Str.ofString "bodies", Value.ref bl), (Str.ofString "right", Value.int rt trt), (Str.ofString "interp", Value.ref ip), (Str.ofString "form", Value.int form tf), (Str.ofString "choices", Value.ref cl)], m p.1 = some p.2)
    (f1 : oG.IsDictOf (strKind PySem.Challenge.rw_pq1410_01.row.prog w) []) (f2 : (fg == sysModules) = false) (f3 : oB.IsDictOf (strKind PySem.Challenge.rw_pq1410_01.row.prog w) []) (f4 : (fb == sysModules) = false) (st : Stat rest ip dip eb bl rb rt)
    (e1 : (eg, instObj 167 deg) ∈ rest) (e2 : (deg, dictOf eeg neg) ∈ rest) (g1 : getL "number" eeg = some (some (.int 1 tg))) (g2 : getL "parent" eeg = some (some (.ref eb))) (g3 : getL "frame" eeg = some (some (.ref fg)))
    (e3 : (eb, instObj 167 deb) ∈ rest) (e4 : (deb, dictOf eeb neb) ∈ rest) (g4 : getL "number" eeb = some (some (.int 0 tb))) (g5 : getL "parent" eeb = some (some .none)) (g6 : getL "frame" eeb = some (some (.ref fb)))
    (c1 : (cl, listOf vsC.toArray nC) ∈ rest) (hf0 : 0 ≤ form) (hf1 : form < 6) (hVP : ∃ vc, vsC[form.toNat]? = some vc ∧ Pick nm rest form vc)
    (hQ : ∀ (m' : Str → Option Value) (news' : List (Addr × Obj)) (h' : Heap) (tk' : Nat), Fr h₀ L h' m' → News h₀ L h' news' → Q (.ret (.bool true)) { s with heap := h', toks := tk' }),
    wpAny (model PySem.Challenge.rw_pq1410_01.row.prog w) (ktrTop dp un gd (Str.ofString "law") lawScope L a ccd [] outer) (execs (lawBody.drop 9) (envOf (Str.ofString "law") lawScope L a ccd)) Q (fun _ _ => False) s := by
  k_fill
  w_top off
  intro w dp un gd a ccd outer A₀ base h₀ L m s Q mean mg mb src l0 ip dip eb deb fb eg deg fg bl rb cl nm tn trt tf tg tb rt form so lo oB oG esI eeb eeg nI neb neg nC vsC rest B F X N T hd hu d_src_l0 d_src_dip d_src_fg d_src_fb d_l0_dip d_l0_fg d_l0_fb d_dip_fg d_dip_fb d_fg_fb hipd o_src o_l0 o_dip o_fg o_fb hT hip hm f1 f2 f3 f4 st e1 e2 g1 g2 g3 e3 e4 g4 g5 g6 c1 hf0 hf1 hVP hQ
  obtain ⟨vc, hvc, hP⟩ := hVP
  have hip0 := hip
  obtain ⟨p1, p2, p3, p4, kk, tkk, p5, p6, p7⟩ := hip
  have hm0 := map_of hm
  rw [hm0] at F
  dsimp only [kstB] at F
  have hsc : lawScope = ⟨_, _, _, _, _⟩ := rfl
  rw [hsc]
  have i1 := st.i1
  show wpAny _ _ (execs (_ :: _ :: _ :: _ :: _ :: _ :: _ :: _ :: _ :: _ :: []) _) _ _ _
  rcases hP with ⟨rfl, rfl⟩ | ⟨rfl, c, dc, ec, nc, t, rfl, q1, q2, q3⟩ | ⟨hf, c, dc, ec, nc, κ, nm', γ, t1, t2, t3, rfl, q1, q2, q3, q4, q5, q6, q7, q8, q9⟩
  all_goals k_steps
  all_goals try (
    rename (_ != _) = true => hbad
    exact (ne_self (q9.trans rfl) hbad).elim)
  all_goals (
    rename Fr h₀ L _ _ => F1
    rename News h₀ L _ _ => N1
    unfold Halt)
  all_goals (
    refine tt1 (trt := trt) (tn := tn) (rb := rb) (nm := nm) B F1 X N1 T (room hd rfl) (room hu rfl) d_src_l0 d_src_dip d_l0_dip d_src_fg d_l0_fg d_dip_fg hipd (offC d_src_fb o_src) (offC d_l0_fb o_l0) (offC d_dip_fb o_dip) (offC d_fg_fb o_fg) hT hip0 (by (repeat' (first | exact List.forall_mem_nil _ | refine List.forall_mem_cons.mpr ⟨rfl, ?_⟩))) f1 f2 (st.mono fun _ h => .tail _ h) (.tail _ e1) (.tail _ e2) g1 g2 g3 ?_ hQ)
  all_goals first
    | exact Chain.base (.tail _ e3) (.tail _ e4) g4 g5 g6 (.head _) f3 f4 rfl .nil
    | exact Chain.base (.tail _ e3) (.tail _ e4) g4 g5 g6 (.head _) (by assumption) f4 valueAt_one (.clo (.tail _ q1) (.tail _ q2) q3)
    | exact Chain.base (.tail _ e3) (.tail _ e4) g4 g5 g6 (.head _) (by assumption) f4 valueAt_one (q9 ▸ BaseCell.fn (.tail _ q1) (.tail _ q2) q3 q4 q5 q6 q7 q8)
end
local macro_rules | `(tactic| walk_at "call ref") => `(tactic| (k_here; (show wpAny _ _ (call (Value.ref 81) _) _ _ _); k_dflt (refine' mkVec ?k1 ?k2 ?k3 ?k4 ?k5 ?kK ?kd ?ku ?_; (case k1 => k_asm); (case k2 => k_asm); (case k3 => k_asm); (case k4 => k_asm); (case k5 => k_asm); (case kK => exact rfl); (case kd => ktr_room); (case ku => ktr_units); intro x' d' es' n' h' tk' F' N' l1 l2 z' g0'; (k_lt l1); (try k_lt2 l2); (try k_sweep))))
local macro_rules | `(tactic| walk_at "call ref") => `(tactic| (k_here; (show wpAny _ _ (call (Value.ref 52) _) _ _ _); k_dflt (refine' mkMissing ?k1 ?k2 ?k3 ?k4 ?k5 ?kK ?kd ?ku ?_; (case k1 => k_asm); (case k2 => k_asm); (case k3 => k_asm); (case k4 => k_asm); (case k5 => k_asm); (case kK => exact rfl); (case kd => ktr_room); (case ku => ktr_units); intro x' d' es' n' h' tk' u1' F' N' l1 l2 z' g0'; (k_lt l1); (try k_lt2 l2); (try k_sweep))))
local macro_rules | `(tactic| walk_at "call ref") => `(tactic| (k_here; (show wpAny _ _ (call (Value.ref 102) _) _ _ _); k_dflt (refine' mkSym ?k1 ?k2 ?k3 ?k4 ?k5 ?kK ?kd ?ku ?_; (case k1 => k_asm); (case k2 => k_asm); (case k3 => k_asm); (case k4 => k_asm); (case k5 => k_asm); (case kK => exact rfl); (case kd => ktr_room); (case ku => ktr_units); intro x' d' es' n' h' tk' u1' F' N' l1 l2 z' g0'; (k_lt l1); (try k_lt2 l2); (try k_sweep))))
local macro_rules | `(tactic| walk_at "call ref") => `(tactic| (k_here; (show wpAny _ _ (call (Value.ref 124) _) _ _ _); k_dflt (refine' mkClo ?k1 ?k2 ?k3 ?k4 ?k5 ?kK ?kd ?ku ?_; (case k1 => k_asm); (case k2 => k_asm); (case k3 => k_asm); (case k4 => k_asm); (case k5 => k_asm); (case kK => exact rfl); (case kd => ktr_room); (case ku => ktr_units); intro x' d' es' n' h' tk' u1' F' N' l1 l2 z' g0'; (k_lt l1); (try k_lt2 l2); (try k_sweep))))
local macro_rules | `(tactic| walk_at "call ref") => `(tactic| (k_here; (show wpAny _ _ (call (Value.ref 188) _) _ _ _); k_dflt (refine' mkProm ?k1 ?k2 ?k3 ?k4 ?k5 ?kK ?kd ?ku ?_; (case k1 => k_asm); (case k2 => k_asm); (case k3 => k_asm); (case k4 => k_asm); (case k5 => k_asm); (case kK => exact rfl); (case kd => ktr_room); (case ku => ktr_units); intro x' d' es' n' h' tk' u1' u2' F' N' l1 l2 z' g0' g1' g2' g3'; (k_lt l1); (try k_lt2 l2); (try k_sweep))))
local macro_rules | `(tactic| walk_at "call ref") => `(tactic| (k_here; (show wpAny _ _ (call (Value.ref 145) _) _ _ _); k_dflt (refine' mkBlt ?k1 ?k2 ?k3 ?k4 ?k5 ?kK ?kd ?ku ?_; (case k1 => k_asm); (case k2 => k_asm); (case k3 => k_asm); (case k4 => k_asm); (case k5 => k_asm); (case kK => exact rfl); (case kd => ktr_room); (case ku => ktr_units); intro x' d' es' n' h' tk' u1' F' N' l1 l2 z' g0' g1' g2' g3'; (k_lt l1); (try k_lt2 l2); (try k_sweep))))
section

def sAt (k : Str) : List Value → Option Nat
  | [] => none
  | x :: r => cond (isStrOf k x) (some 0) (match sAt k r with
    | some j => some (j + 1)
    | none => none)
theorem sAt_spec {k : Str} : ∀ {l : List Value} {j : Nat}, sAt k l = some j → ∃ hj : j < l.length, isStrOf k l[j] = true ∧ ∀ i (hi : i < l.length), i < j → isStrOf k l[i] = false
  | [], _, h => by cases h
  | x :: r, j, h => by
    unfold sAt at h
    cases hx : isStrOf k x with
    | true =>
      rw [hx] at h
      cases h
      exact ⟨Nat.succ_pos _, hx, fun i _ hlt => absurd hlt (Nat.not_lt_zero i)⟩
    | false =>
      rw [hx] at h
      cases e : sAt k r with
      | none => rw [e] at h; cases h
      | some j' =>
        rw [e] at h
        cases h
        obtain ⟨a, b, c⟩ := sAt_spec e
        refine ⟨Nat.succ_lt_succ a, b, fun i hi hlt => ?_⟩
        cases i with
        | zero => exact hx
        | succ i => exact c i (Nat.lt_of_succ_lt_succ hi) (Nat.lt_of_succ_lt_succ hlt)
theorem s_index {prog : Program} {w : World} {A : Around} {E : Value → Shared → Prop} {s : Shared} {h₀ : Heap} {L D : Addr} {news : List (Addr × Obj)} {vs : List Value} {ys : List Str} {n : Nat} {k : Str} {i : Int} {t : Tok} {j : Nat} {Q : Value → Shared → Prop} (N : News h₀ L s.heap news) (hm : (D, listOf vs.toArray n) ∈ news) (hi : StrsAre vs ys) (e : sAt k vs = some j) (ei : (j : Int) = i) (hz : vs.length ≤ 100)
    (h : Q (.int i s.toks) { s with toks := s.toks + 1 }) : wpAny (model prog w) A (call (.builtin "list.index") [.ref D, .str k t]) Q E s := by
  obtain ⟨a, b, c⟩ := sAt_spec e
  subst ei
  refine call_meets PySem.F.slot_list_index ⟨_, (N _ hm).1, rfl⟩ PySem.F.entry_list_index (PySem.F.args_list_index_2 _ _)
    (MeetsSeq.list_index D vs.toArray n (.str k t) (isStrOf k) (fun y hy => eq_isStrOf k t hi y (by simpa using hy)) j (by simpa using a) (by omega) (by simpa using b) (fun i hi hlt => (by simpa using c i (by simpa using hi) hlt))) ⟨(N _ hm).1, h⟩

theorem iadd_road {M : Model} {A : Around} {E : Value → Shared → Prop} {s : Shared} {a b : Value} {Q : Value → Shared → Prop} (ha : s.TypeIs a "list") (hb : s.TypeIs b "list") (hc : wpAny M A (call (.builtin "list.__iadd__") [a, b]) Q E s) : wpAny M A (inplaceOp .Add a b) Q E s := by
  unfold inplaceOp
  refine wpAny_holding ?_
  have hl := PySem.F.slot_list_iadd.lookup
  have hfi : fillsInplaceSlot (.type "list") "add" (Operator.Add == .Add) = pure false := by
    unfold fillsInplaceSlot
    show (typeLookup (.type "list") (dunderI "add") >>= fun fi => pure (fi.isSome && !isSeqSlot fi)) = pure false
    rw [hl, pure_bind, show (((some (Value.builtin "list.__iadd__")).isSome && !isSeqSlot (some (Value.builtin "list.__iadd__"))) = false) from by decide +kernel]
  have hsi : seqSlot? (.type "list") (dunderI "add") = pure (some (.builtin "list.__iadd__")) := PyProof.Rows.seqSlot_of hl (by decide +kernel)
  refine wpAny_bind (wpAny_typeOf ha (wpAny_bind (wpAny_of_eq hfi ?_)))
  show wpAny M A (if false = true then _ else _) Q E s
  rw [if_neg Bool.false_ne_true]
  refine wpAny_bind (binaryOp1_none (nm := "add") ha hb noFill_list_add ?_)
  refine wpAny_bind (wpAny_of_eq hsi ?_)
  exact wpAny_bind (wpAny_rule hc)
theorem l_iadd {prog : Program} {w : World} {A : Around} {E : Value → Shared → Prop} {s : Shared} {h₀ : Heap} {L D b : Addr} {m : Str → Option Value} {news news' : List (Addr × Obj)} {vs ws : List Value} {n n2 : Nat} {Q : Value → Shared → Prop} (F : Fr h₀ L s.heap m) (N : News h₀ L s.heap news) (hb : (b, listOf ws.toArray n2) ∈ news) (hne : ws.length ≠ 0)
    (U : Upd D (listOf vs.toArray n) (listOf (vs ++ ws).toArray (n + 1)) news news') (hz : vs.length + ws.length ≤ 100)
    (h : ∀ h', Fr h₀ L h' m → News h₀ L h' news' → Q (.ref D) { s with heap := h' }) : wpAny (model prog w) A (inplaceOp .Add (.ref D) (.ref b)) Q E s := by
  obtain ⟨pre, post, rfl, rfl, a, c⟩ := U.split
  have z := N (D, listOf vs.toArray n) (List.mem_append.mpr (.inr (.head _)))
  have zz : vs.length + ws.length ≤ sizeLine := by rw [sizeLine_eq]; omega
  have z2 : vs.toArray.size + ws.toArray.size ≤ sizeLine := by simpa using zz
  refine iadd_road ⟨_, z.1, rfl⟩ ⟨_, (N _ hb).1, rfl⟩ (call_meets PySem.F.slot_list_iadd ⟨_, z.1, rfl⟩ PySem.F.entry_list_iadd (PySem.F.args_list_iadd_2 _ _) (PySem.AutoSeq1.list___iadd___list_list_0 D vs.toArray n b ws.toArray n2 (extend_door z2) (Nat.le_trans (Nat.le_add_right _ _) z2) (Nat.le_succ_of_le z2)) ⟨z.1, (N _ hb).1, h _ (F.change (Heap.SameBut.update ..) z.2.1 z.2.2) (kl_turn _ N a c ?_ ?_)⟩)
  · apply Array.toList_inj.mp
    simp
  · simp
    intro e
    exact hne (by simp [e])

def Sorts (ss nm : Str) (rt : Int) : Prop := (ss = Str.ofString "operator" ∧ rt = 0 ∧ (nm = Str.ofString "+" ∨ nm = Str.ofString "!")) ∨ (ss = Str.ofString "index" ∧ rt = 1 ∧ (nm = Str.ofString "[" ∨ nm = Str.ofString "[[")) ∨ (ss = Str.ofString "control" ∧ rt = 2 ∧ (nm = Str.ofString "if" ∨ nm = Str.ofString "for"))
theorem sorts_ix {ss nm : Str} {rt : Int} {t0 t1 t2 : Tok} (h : Sorts ss nm rt) : sAt ss [.str (Str.ofString "operator") t0, .str (Str.ofString "index") t1, .str (Str.ofString "control") t2] = some rt.toNat := by
  rcases h with ⟨rfl, rfl, _⟩ | ⟨rfl, rfl, _⟩ | ⟨rfl, rfl, _⟩ <;> rfl
theorem sorts_rt {ss nm : Str} {rt : Int} (h : Sorts ss nm rt) : ((rt.toNat : Nat) : Int) = rt := by
  rcases h with ⟨_, rfl, _⟩ | ⟨_, rfl, _⟩ | ⟨_, rfl, _⟩ <;> rfl
theorem sorts_r0 {ss nm : Str} {rt : Int} (h : Sorts ss nm rt) : 0 ≤ rt := by
  rcases h with ⟨_, rfl, _⟩ | ⟨_, rfl, _⟩ | ⟨_, rfl, _⟩ <;> decide
theorem sorts_r3 {ss nm : Str} {rt : Int} (h : Sorts ss nm rt) : rt < 3 := by
  rcases h with ⟨_, rfl, _⟩ | ⟨_, rfl, _⟩ | ⟨_, rfl, _⟩ <;> decide
def BodOk (nm : Str) (rest : List (Addr × Obj)) (c : Addr) (o : Bool) : Prop := ∃ (dc : Addr) (ec : List DictEntry) (nc : Nat) (κ nm' γ : Str) (t1 t2 t3 : Tok), (c, instObj 145 dc) ∈ rest ∧ (dc, dictOf ec nc) ∈ rest ∧ getL "kind" ec = some (some (.str κ t1)) ∧ getL "name" ec = some (some (.str nm' t2)) ∧ getL "group" ec = some (some (.str γ t3)) ∧ fnKind κ = true ∧ (κ == Str.ofString "promise") = false ∧ (κ == Str.ofString "missing") = false ∧ orig κ nm' γ nm = o
theorem BodOk.mono {nm : Str} {r r' : List (Addr × Obj)} {c : Addr} {o : Bool} (hs : ∀ p ∈ r, p ∈ r') (h : BodOk nm r c o) : BodOk nm r' c o := by
  obtain ⟨dc, ec, nc, κ, nm', γ, t1, t2, t3, a, b, r⟩ := h
  exact ⟨dc, ec, nc, κ, nm', γ, t1, t2, t3, hs _ a, hs _ b, r⟩
theorem BodOk.pick {nm : Str} {r : List (Addr × Obj)} {c : Addr} {form : Int} (h : BodOk nm r c (decide (form = 0))) (hf : form < 4) : Pick nm r form (.ref c) := by
  obtain ⟨dc, ec, nc, κ, nm', γ, t1, t2, t3, a, b, k1, k2, k3, k4, k5, k6, k7⟩ := h
  exact .inr (.inr ⟨hf, c, dc, ec, nc, κ, nm', γ, t1, t2, t3, rfl, a, b, k1, k2, k3, k4, k5, k6, k7⟩)
def Bods (nm : Str) (rest : List (Addr × Obj)) (bl : Addr) (rt : Int) : Prop := ∃ (vsb : List Value) (nbl : Nat) (c0 c1 c2 dc0 : Addr) (ec0 : List DictEntry) (nc0 : Nat) (sp : Bool) (γ0 : Str) (tγ : Tok), (bl, listOf vsb.toArray nbl) ∈ rest ∧ vsb[rt.toNat]? = some (.ref c0) ∧ vsb[((rt + 1).fmod 3).toNat]? = some (.ref c1) ∧ vsb[((rt + 2).fmod 3).toNat]? = some (.ref c2) ∧
  (c0, instObj 145 dc0) ∈ rest ∧ (dc0, dictOf ec0 nc0) ∈ rest ∧ getL "special" ec0 = some (some (.bool sp)) ∧ getL "group" ec0 = some (some (.str γ0 tγ)) ∧ BodOk nm rest c0 true ∧ BodOk nm rest c1 false ∧ BodOk nm rest c2 false ∧ 0 ≤ rt ∧ rt < 3 ∧ (Str.ofString "other" != nm) = true
theorem bods_of {ss nm : Str} {rt : Int} {rest : List (Addr × Obj)} {bl b0 b1 b2 d0 d1 d2 : Addr} {e0 e1 e2 : List DictEntry} {n n0 n1 n2 : Nat} {u0 u1 u2 w0 w1 w2 v0 v1 v2 : Tok}
    (h : (bl, listOf [.ref b0, .ref b1, .ref b2].toArray n) ∈ rest) (x0 : (b0, instObj 145 d0) ∈ rest) (y0 : (d0, dictOf e0 n0) ∈ rest) (x1 : (b1, instObj 145 d1) ∈ rest) (y1 : (d1, dictOf e1 n1) ∈ rest) (x2 : (b2, instObj 145 d2) ∈ rest) (y2 : (d2, dictOf e2 n2) ∈ rest)
    (k0 : getL "kind" e0 = some (some (.str (if false then Str.ofString "special" else Str.ofString "builtin") u0))) (m0 : getL "name" e0 = some (some (.str nm w0))) (s0 : getL "special" e0 = some (some (.bool false))) (g0 : getL "group" e0 = some (some (.str (Str.ofString "Ops") v0)))
    (k1 : getL "kind" e1 = some (some (.str (if false then Str.ofString "special" else Str.ofString "builtin") u1))) (m1 : getL "name" e1 = some (some (.str nm w1))) (s1 : getL "special" e1 = some (some (.bool false))) (g1 : getL "group" e1 = some (some (.str (Str.ofString "index") v1)))
    (k2 : getL "kind" e2 = some (some (.str (if true then Str.ofString "special" else Str.ofString "builtin") u2))) (m2 : getL "name" e2 = some (some (.str nm w2))) (s2 : getL "special" e2 = some (some (.bool true))) (g2 : getL "group" e2 = some (some (.str (Str.ofString "") v2)))
    (hs : Sorts ss nm rt) : Bods nm rest bl rt := by
  have A0 : ∀ o, orig (Str.ofString "builtin") nm (Str.ofString "Ops") nm = o → BodOk nm rest b0 o := fun o q => ⟨d0, e0, n0, _, _, _, _, _, _, x0, y0, k0, m0, g0, rfl, rfl, rfl, q⟩
  have A1 : ∀ o, orig (Str.ofString "builtin") nm (Str.ofString "index") nm = o → BodOk nm rest b1 o := fun o q => ⟨d1, e1, n1, _, _, _, _, _, _, x1, y1, k1, m1, g1, rfl, rfl, rfl, q⟩
  have A2 : ∀ o, orig (Str.ofString "special") nm (Str.ofString "") nm = o → BodOk nm rest b2 o := fun o q => ⟨d2, e2, n2, _, _, _, _, _, _, x2, y2, k2, m2, g2, rfl, rfl, rfl, q⟩
  rcases hs with ⟨rfl, rfl, hn⟩ | ⟨rfl, rfl, hn⟩ | ⟨rfl, rfl, hn⟩
  · exact ⟨_, n, b0, b1, b2, d0, e0, n0, _, _, _, h, rfl, rfl, rfl, x0, y0, s0, g0, A0 _ (by rcases hn with rfl | rfl <;> decide +kernel), A1 _ (by rcases hn with rfl | rfl <;> decide +kernel), A2 _ (by rcases hn with rfl | rfl <;> decide +kernel), by decide, by decide, by rcases hn with rfl | rfl <;> decide +kernel⟩
  · exact ⟨_, n, b1, b2, b0, d1, e1, n1, _, _, _, h, rfl, rfl, rfl, x1, y1, s1, g1, A1 _ (by rcases hn with rfl | rfl <;> decide +kernel), A2 _ (by rcases hn with rfl | rfl <;> decide +kernel), A0 _ (by rcases hn with rfl | rfl <;> decide +kernel), by decide, by decide, by rcases hn with rfl | rfl <;> decide +kernel⟩
  · exact ⟨_, n, b2, b0, b1, d2, e2, n2, _, _, _, h, rfl, rfl, rfl, x2, y2, s2, g2, A2 _ (by rcases hn with rfl | rfl <;> decide +kernel), A0 _ (by rcases hn with rfl | rfl <;> decide +kernel), A1 _ (by rcases hn with rfl | rfl <;> decide +kernel), by decide, by decide, by rcases hn with rfl | rfl <;> decide +kernel⟩
theorem fm1 {a b : Int} (h : Int.fmod a 3 = b) (l : 0 ≤ b) : 0 ≤ Int.fmod a 3 := h ▸ l
theorem fm0 {a : Int} : 0 ≤ Int.fmod a 3 := Int.fmod_nonneg_of_pos _ (by decide)
theorem fm3 {a : Int} : Int.fmod a 3 < 3 := Int.fmod_lt_of_pos _ (by decide)
theorem pick_all {nm : Str} {r : List (Addr × Obj)} {form : Int} {c0 c1 c2 c3 c4 d3 d4 : Addr} {e3 e4 : List DictEntry} {n3 n4 : Nat} {sp : Bool} {u3 u4 w3 v3 : Tok} {γ : Str} (hf0 : 0 ≤ form) (hf1 : form < 6) (h0 : BodOk nm r c0 true) (h1 : BodOk nm r c1 false) (h2 : BodOk nm r c2 false)
    (x3 : (c3, instObj 145 d3) ∈ r) (y3 : (d3, dictOf e3 n3) ∈ r) (x4 : (c4, instObj 124 d4) ∈ r) (y4 : (d4, dictOf e4 n4) ∈ r)
    (k3 : getL "kind" e3 = some (some (.str (if sp then Str.ofString "special" else Str.ofString "builtin") u3))) (m3 : getL "name" e3 = some (some (.str (Str.ofString "other") w3))) (g3 : getL "group" e3 = some (some (.str γ v3))) (hn : (Str.ofString "other" != nm) = true)
    (k4 : getL "kind" e4 = some (some (.str (Str.ofString "closure") u4))) :
    ∃ vc, [Value.ref c0, .ref c1, .ref c2, .ref c3, .ref c4, .none][form.toNat]? = some vc ∧ Pick nm r form vc := by
  have hf : form = 0 ∨ form = 1 ∨ form = 2 ∨ form = 3 ∨ form = 4 ∨ form = 5 := by omega
  rcases hf with rfl | rfl | rfl | rfl | rfl | rfl
  · exact ⟨_, rfl, BodOk.pick h0 (by decide)⟩
  · exact ⟨_, rfl, BodOk.pick h1 (by decide)⟩
  · exact ⟨_, rfl, BodOk.pick h2 (by decide)⟩
  · refine ⟨_, rfl, BodOk.pick ?_ (by decide)⟩
    cases sp
    · exact ⟨d3, e3, n3, _, _, _, _, _, _, x3, y3, k3, m3, g3, rfl, rfl, rfl, (o2 rfl hn).symm⟩
    · exact ⟨d3, e3, n3, _, _, _, _, _, _, x3, y3, k3, m3, g3, rfl, rfl, rfl, (o2 rfl hn).symm⟩
  · exact ⟨_, rfl, .inr (.inl ⟨rfl, c4, d4, e4, n4, _, rfl, x4, y4, k4⟩)⟩
  · exact ⟨_, rfl, .inl ⟨rfl, rfl⟩⟩
theorem pm2 {n0 n1 n2 n3 n4 n5 n6 n7 n8 n9 : Addr × Obj} {a b c d e : Addr × Obj} {l : List (Addr × Obj)} : ∀ p ∈ a :: b :: c :: d :: e :: (n0 :: n1 :: n2 :: n3 :: n4 :: n5 :: n6 :: n7 :: n8 :: n9 :: l), p ∈ n0 :: n1 :: n2 :: n3 :: n4 :: n5 :: n6 :: n7 :: n8 :: n9 :: a :: b :: c :: d :: e :: l := by
  intro p hp
  simp only [List.mem_cons] at hp ⊢
  rcases hp with h | h | h | h | h | h | h | h | h | h | h | h | h | h | h | h <;> simp [h]
theorem memEnd {n0 n1 n2 n3 n4 n5 n6 n7 n8 n9 : Addr × Obj} {l : List (Addr × Obj)} : ∀ {p : Addr × Obj}, p ∈ l → p ∈ n0 :: n1 :: n2 :: n3 :: n4 :: n5 :: n6 :: n7 :: n8 :: n9 :: l := fun h => .tail _ (.tail _ (.tail _ (.tail _ (.tail _ (.tail _ (.tail _ (.tail _ (.tail _ (.tail _ (h))))))))))

local macro_rules | `(tactic| walk_at "inplaceOp Add ref") => `(tactic| (k_here; (show wpAny _ _ (inplaceOp Operator.Add (Value.ref _) (Value.ref _)) _ _ _); k_dflt (refine' l_iadd ?F ?N ?b ?e ?U ?z ?_; (case F => k_asm); (case N => k_asm); (case b => k_mem); (case e => exact Nat.succ_ne_zero _); (case U => k_upd); (case z => exact Nat.le_of_ble_eq_true rfl)); intro h' F' N'; (try dsimp only [List.cons_append, List.nil_append] at N')))

local macro_rules | `(tactic| walk_at "subscriptTail Name BinOp ref int") => `(tactic| (k_here; (with_reducible show wpAny _ _ (subscriptTail _ _ (Value.ref _) (Value.int _ _)) _ _ _); k_dflt (refine' my_item ?k1 ?k2 ?k3 ?k4 ?_ ?k6; (case k1 => exact isListOf (by k_asm) (by k_mem)); (case k2 => exact fm0); (case k3 => exact Int.lt_trans fm3 (by decide)); (case k4 => assumption); (case k6 => with_unfolding_all rfl); k_whole)))

local macro_rules | `(tactic| walk_at "execs cons") => `(tactic| ((with_reducible show wpAny _ _ (execs (Stmt.If _ _ _ _ :: _) _) _ _ _); refine halt ?_))

theorem e2 : ∀ {w : World} {dp un : Nat} {gd : Option (List Code)} {a : Addr} {ccd : Value} {outer : List Env} {A₀ : Around} {base h₀ : Heap} {L : Addr} {m : Str → Option Value} {s : Shared} {Q : Flow → Shared → Prop}
    {mean : ExcName → Option Value} {mg mb : Str → Option Value} {src l0 ip dip eb deb fb eg deg fg : Addr} {nm : Str} {tn tf tg tb : Tok} {form : Int} {rt : Int} {trt : Tok} {bl : Addr} {so lo oB oG : Obj} {esI eeb eeg : List DictEntry} {nI neb neg : Nat} {rest : List (Addr × Obj)}
    (B : Below A₀ base outer h₀) (F : Fr h₀ L s.heap m) (X : (hd.heap_39 w.params).In h₀) (N : News h₀ L s.heap ((src, so) :: (l0, lo) :: (dip, dictOf esI nI) :: (fg, oG) :: (fb, oB) :: rest)) (T : Top q (looseW q []) mean mg mb h₀) (hd : dp + 350 < recursionLimit) (hu : un + 3500 < cLine)
    (d_src_l0 : ¬ (@Eq Nat src l0)) (d_src_dip : ¬ (@Eq Nat src dip)) (d_src_fg : ¬ (@Eq Nat src fg)) (d_src_fb : ¬ (@Eq Nat src fb)) (d_l0_dip : ¬ (@Eq Nat l0 dip)) (d_l0_fg : ¬ (@Eq Nat l0 fg)) (d_l0_fb : ¬ (@Eq Nat l0 fb)) (d_dip_fg : ¬ (@Eq Nat dip fg)) (d_dip_fb : ¬ (@Eq Nat dip fb)) (d_fg_fb : ¬ (@Eq Nat fg fb)) (hipd : ¬ (@Eq Nat ip dip)) (o_src : ∀ p ∈ rest, p.1 ≠ src) (o_l0 : ∀ p ∈ rest, p.1 ≠ l0) (o_dip : ∀ p ∈ rest, p.1 ≠ dip) (o_fg : ∀ p ∈ rest, p.1 ≠ fg) (o_fb : ∀ p ∈ rest, p.1 ≠ fb)
    (hT : TakeOk l0 so lo) (hip : IpOk esI eb eg 0) (hm : ∀ p ∈ [(Str.ofString "source", Value.ref src), (Str.ofString "name", Value.str nm tn), (Str.ofString "bodies", Value.ref bl), (Str.ofString "right", Value.int rt trt), (Str.ofString "interp", Value.ref ip), (Str.ofString "form", Value.int form tf)], m p.1 = some p.2)
    (f1 : oG.IsDictOf (strKind PySem.Challenge.rw_pq1410_01.row.prog w) []) (f2 : (fg == sysModules) = false) (f3 : oB.IsDictOf (strKind PySem.Challenge.rw_pq1410_01.row.prog w) []) (f4 : (fb == sysModules) = false) (i1 : (ip, instObj 419 dip) ∈ rest)
    (e1 : (eg, instObj 167 deg) ∈ rest) (e2 : (deg, dictOf eeg neg) ∈ rest) (g1 : getL "number" eeg = some (some (.int 1 tg))) (g2 : getL "parent" eeg = some (some (.ref eb))) (g3 : getL "frame" eeg = some (some (.ref fg)))
    (e3 : (eb, instObj 167 deb) ∈ rest) (e4 : (deb, dictOf eeb neb) ∈ rest) (g4 : getL "number" eeb = some (some (.int 0 tb))) (g5 : getL "parent" eeb = some (some .none)) (g6 : getL "frame" eeb = some (some (.ref fb)))
    (hf0 : 0 ≤ form) (hf1 : form < 6) (hB : Bods nm rest bl rt)
    (hQ : ∀ (m' : Str → Option Value) (news' : List (Addr × Obj)) (h' : Heap) (tk' : Nat), Fr h₀ L h' m' → News h₀ L h' news' → Q (.ret (.bool true)) { s with heap := h', toks := tk' }),
    wpAny (model PySem.Challenge.rw_pq1410_01.row.prog w) (ktrTop dp un gd (Str.ofString "law") lawScope L a ccd [] outer) (execs (lawBody.drop 7) (envOf (Str.ofString "law") lawScope L a ccd)) Q (fun _ _ => False) s := by
  k_fill
  w_top off
  intro w dp un gd a ccd outer A₀ base h₀ L m s Q mean mg mb src l0 ip dip eb deb fb eg deg fg nm tn tf tg tb form rt trt bl so lo oB oG esI eeb eeg nI neb neg rest B F X N T hd hu d_src_l0 d_src_dip d_src_fg d_src_fb d_l0_dip d_l0_fg d_l0_fb d_dip_fg d_dip_fb d_fg_fb hipd o_src o_l0 o_dip o_fg o_fb hT hip hm f1 f2 f3 f4 i1 e1 e2 g1 g2 g3 e3 e4 g4 g5 g6 hf0 hf1 hB hQ
  have hip0 := hip
  obtain ⟨p1, p2, p3, p4, kk, tkk, p5, p6, p7⟩ := hip
  have hm0 := map_of hm
  rw [hm0] at F
  dsimp only [kstB] at F
  have hsc : lawScope = ⟨_, _, _, _, _⟩ := rfl
  rw [hsc]
  obtain ⟨vsb, nbl, c0, c1, c2, dc0, ec0, nc0, sp, γ0, tγ, b1, b2, b3, b4, b5, b6, b7, b8, b9, b10, b11, r0, r3, hoth⟩ := hB
  have b9' := b9
  obtain ⟨dd, ee, nn, κb, n9, γ9, s1, s2, s3, q1, q2, q3, q4, q5, q6, q7, q8, q9⟩ := b9'
  show wpAny _ _ (execs (_ :: _ :: _ :: _ :: _ :: _ :: _ :: _ :: _ :: _ :: _ :: _ :: []) _) _ _ _
  k_steps
  all_goals (
    rename Fr h₀ L _ _ => F1
    rename News h₀ L _ _ => N1
    unfold Halt)
  all_goals (
    refine' ff1 (trt := trt) (tn := tn) (tf := tf) (nm := nm) (rb := c0) (bl := bl) B F1 X (newsSub N1 pm2) T (room hd rfl) (room hu rfl) d_src_l0 d_src_dip d_src_fg d_src_fb d_l0_dip d_l0_fg d_l0_fb d_dip_fg d_dip_fb d_fg_fb hipd ?os ?ol ?od ?og ?ob hT hip0 (by (repeat' (first | exact List.forall_mem_nil _ | refine List.forall_mem_cons.mpr ⟨rfl, ?_⟩))) f1 f2 f3 f4 ?st ?w1 ?w2 g1 g2 g3 ?w3 ?w4 g4 g5 g6 ?cl hf0 hf1 ?vp hQ
    case os => k_all
    case ol => k_all
    case od => k_all
    case og => k_all
    case ob => k_all
    case cl => (repeat (first | exact List.Mem.head _ | refine List.Mem.tail _ ?_))
    case w1 => exact memEnd e1
    case w2 => exact memEnd e2
    case w3 => exact memEnd e3
    case w4 => exact memEnd e4
    case st => exact Stat.mono (fun _ h => memEnd h) ⟨i1, ⟨vsb, nbl, b1, b2⟩, r0, r3, ⟨dd, ee, nn, κb, s1, q1, q2, q3, q6, q7, q8⟩, ⟨deb, eeb, neb, tb, e3, e4, g4⟩⟩
    case vp => exact pick_all hf0 hf1 (b9.mono fun _ h => memEnd h) (b10.mono fun _ h => memEnd h) (b11.mono fun _ h => memEnd h) (by (repeat (first | exact List.Mem.head _ | refine List.Mem.tail _ ?_))) (by (repeat (first | exact List.Mem.head _ | refine List.Mem.tail _ ?_))) (by (repeat (first | exact List.Mem.head _ | refine List.Mem.tail _ ?_))) (by (repeat (first | exact List.Mem.head _ | refine List.Mem.tail _ ?_))) (by assumption) (by assumption) (by assumption) hoth (by assumption))
end
section
theorem pm1 {n0 n1 n2 n3 n4 n5 n6 n7 : Addr × Obj} {a b c d e : Addr × Obj} {l : List (Addr × Obj)} : ∀ p ∈ a :: b :: c :: d :: e :: (n0 :: n1 :: n2 :: n3 :: n4 :: n5 :: n6 :: n7 :: l), p ∈ n0 :: n1 :: n2 :: n3 :: n4 :: n5 :: n6 :: n7 :: a :: b :: c :: d :: e :: l := by
  intro p hp
  simp only [List.mem_cons] at hp ⊢
  rcases hp with h | h | h | h | h | h | h | h | h | h | h | h | h | h <;> simp [h]
theorem memEnd1 {n0 n1 n2 n3 n4 n5 n6 n7 : Addr × Obj} {l : List (Addr × Obj)} : ∀ {p : Addr × Obj}, p ∈ l → p ∈ n0 :: n1 :: n2 :: n3 :: n4 :: n5 :: n6 :: n7 :: l := fun h => .tail _ (.tail _ (.tail _ (.tail _ (.tail _ (.tail _ (.tail _ (.tail _ (h))))))))


local macro_rules | `(tactic| walk_at "call builtin:list.index") => `(tactic| (k_here; (show wpAny _ _ (call (Value.builtin _) [Value.ref _, Value.str _ _]) _ _ _); k_dflt (refine' s_index ?N ?m ?i ?e ?c ?z ?_; (case N => k_asm); (case m => k_mem); (case i => exact .cons _ _ (.cons _ _ (.cons _ _ .nil))); (case e => exact sorts_ix (by assumption)); (case c => exact sorts_rt (by assumption)); (case z => exact Nat.le_of_ble_eq_true rfl))))

local macro_rules | `(tactic| walk_at "execs cons") => `(tactic| ((with_reducible show wpAny _ _ (execs (Stmt.Assign [Expr.Name (Str.ofString "choices") _] _ _ :: _) _) _ _ _); refine halt ?_))

theorem e1 : ∀ {w : World} {dp un : Nat} {gd : Option (List Code)} {a : Addr} {ccd : Value} {outer : List Env} {A₀ : Around} {base h₀ : Heap} {L : Addr} {m : Str → Option Value} {s : Shared} {Q : Flow → Shared → Prop}
    {mean : ExcName → Option Value} {mg mb : Str → Option Value} {src l0 ip dip eb deb fb eg deg fg : Addr} {nm : Str} {tn ts tf tg tb : Tok} {form : Int} {ss : Str} {rt : Int} {so lo oB oG : Obj} {esI eeb eeg : List DictEntry} {nI neb neg : Nat} {rest : List (Addr × Obj)}
    (B : Below A₀ base outer h₀) (F : Fr h₀ L s.heap m) (X : (hd.heap_39 w.params).In h₀) (N : News h₀ L s.heap ((src, so) :: (l0, lo) :: (dip, dictOf esI nI) :: (fg, oG) :: (fb, oB) :: rest)) (T : Top q (looseW q []) mean mg mb h₀) (hd : dp + 400 < recursionLimit) (hu : un + 4000 < cLine)
    (d_src_l0 : ¬ (@Eq Nat src l0)) (d_src_dip : ¬ (@Eq Nat src dip)) (d_src_fg : ¬ (@Eq Nat src fg)) (d_src_fb : ¬ (@Eq Nat src fb)) (d_l0_dip : ¬ (@Eq Nat l0 dip)) (d_l0_fg : ¬ (@Eq Nat l0 fg)) (d_l0_fb : ¬ (@Eq Nat l0 fb)) (d_dip_fg : ¬ (@Eq Nat dip fg)) (d_dip_fb : ¬ (@Eq Nat dip fb)) (d_fg_fb : ¬ (@Eq Nat fg fb)) (hipd : ¬ (@Eq Nat ip dip)) (o_src : ∀ p ∈ rest, p.1 ≠ src) (o_l0 : ∀ p ∈ rest, p.1 ≠ l0) (o_dip : ∀ p ∈ rest, p.1 ≠ dip) (o_fg : ∀ p ∈ rest, p.1 ≠ fg) (o_fb : ∀ p ∈ rest, p.1 ≠ fb)
    (hT : TakeOk l0 so lo) (hip : IpOk esI eb eg 0) (hm : ∀ p ∈ [(Str.ofString "source", Value.ref src), (Str.ofString "name", Value.str nm tn), (Str.ofString "sort", Value.str ss ts), (Str.ofString "interp", Value.ref ip), (Str.ofString "form", Value.int form tf)], m p.1 = some p.2)
    (f1 : oG.IsDictOf (strKind PySem.Challenge.rw_pq1410_01.row.prog w) []) (f2 : (fg == sysModules) = false) (f3 : oB.IsDictOf (strKind PySem.Challenge.rw_pq1410_01.row.prog w) []) (f4 : (fb == sysModules) = false) (i1 : (ip, instObj 419 dip) ∈ rest)
    (e1 : (eg, instObj 167 deg) ∈ rest) (e2 : (deg, dictOf eeg neg) ∈ rest) (g1 : getL "number" eeg = some (some (.int 1 tg))) (g2 : getL "parent" eeg = some (some (.ref eb))) (g3 : getL "frame" eeg = some (some (.ref fg)))
    (e3 : (eb, instObj 167 deb) ∈ rest) (e4 : (deb, dictOf eeb neb) ∈ rest) (g4 : getL "number" eeb = some (some (.int 0 tb))) (g5 : getL "parent" eeb = some (some .none)) (g6 : getL "frame" eeb = some (some (.ref fb)))
    (hf0 : 0 ≤ form) (hf1 : form < 6) (hS : Sorts ss nm rt)
    (hQ : ∀ (m' : Str → Option Value) (news' : List (Addr × Obj)) (h' : Heap) (tk' : Nat), Fr h₀ L h' m' → News h₀ L h' news' → Q (.ret (.bool true)) { s with heap := h', toks := tk' }),
    wpAny (model PySem.Challenge.rw_pq1410_01.row.prog w) (ktrTop dp un gd (Str.ofString "law") lawScope L a ccd [] outer) (execs (lawBody.drop 5) (envOf (Str.ofString "law") lawScope L a ccd)) Q (fun _ _ => False) s := by
  k_fill
  w_top off
  intro w dp un gd a ccd outer A₀ base h₀ L m s Q mean mg mb src l0 ip dip eb deb fb eg deg fg nm tn ts tf tg tb form ss rt so lo oB oG esI eeb eeg nI neb neg rest B F X N T hd hu d_src_l0 d_src_dip d_src_fg d_src_fb d_l0_dip d_l0_fg d_l0_fb d_dip_fg d_dip_fb d_fg_fb hipd o_src o_l0 o_dip o_fg o_fb hT hip hm f1 f2 f3 f4 i1 e1 e2 g1 g2 g3 e3 e4 g4 g5 g6 hf0 hf1 hS hQ
  have hip0 := hip
  obtain ⟨p1, p2, p3, p4, kk, tkk, p5, p6, p7⟩ := hip
  have hm0 := map_of hm
  rw [hm0] at F
  dsimp only [kstB] at F
  have hsc : lawScope = ⟨_, _, _, _, _⟩ := rfl
  rw [hsc]
  show wpAny _ _ (execs (_ :: _ :: _ :: _ :: _ :: _ :: _ :: _ :: _ :: _ :: _ :: _ :: _ :: _ :: []) _) _ _ _
  k_steps
  all_goals (
    rename Fr h₀ L _ _ => F1
    rename News h₀ L _ _ => N1
    unfold Halt)
  all_goals (
    refine' Mine.e2 (tn := tn) (tf := tf) (nm := nm) B F1 X (newsSub N1 pm1) T (room hd rfl) (room hu rfl) d_src_l0 d_src_dip d_src_fg d_src_fb d_l0_dip d_l0_fg d_l0_fb d_dip_fg d_dip_fb d_fg_fb hipd ?os ?ol ?od ?og ?ob hT hip0 (by (repeat' (first | exact List.forall_mem_nil _ | refine List.forall_mem_cons.mpr ⟨rfl, ?_⟩))) f1 f2 f3 f4 (memEnd1 i1) (memEnd1 e1) (memEnd1 e2) g1 g2 g3 (memEnd1 e3) (memEnd1 e4) g4 g5 g6 hf0 hf1 ?vp hQ
    case os => k_all
    case ol => k_all
    case od => k_all
    case og => k_all
    case ob => k_all
    case vp => exact bods_of (by (repeat (first | exact List.Mem.head _ | refine List.Mem.tail _ ?_))) (by (repeat (first | exact List.Mem.head _ | refine List.Mem.tail _ ?_))) (by (repeat (first | exact List.Mem.head _ | refine List.Mem.tail _ ?_))) (by (repeat (first | exact List.Mem.head _ | refine List.Mem.tail _ ?_))) (by (repeat (first | exact List.Mem.head _ | refine List.Mem.tail _ ?_))) (by (repeat (first | exact List.Mem.head _ | refine List.Mem.tail _ ?_))) (by (repeat (first | exact List.Mem.head _ | refine List.Mem.tail _ ?_))) (by assumption) (by assumption) (by assumption) (by assumption) (by assumption) (by assumption) (by assumption) (by assumption) (by assumption) (by assumption) (by assumption) (by assumption) hS)
end
section


local macro_rules | `(tactic| walk_at "call ref") => `(tactic| (k_here; (show wpAny _ _ (call (Value.ref 430) _) _ _ _); k_dflt (refine' take2 ?k1 ?k2 ?k3 ?k4 ?k5 ?kK ?kd ?ku ?U1 ?U2 ?hT ?ne ?m0 ?m1 ?_; (case k1 => k_asm); (case k2 => k_asm); (case k3 => k_asm); (case k4 => k_asm); (case k5 => k_asm); (case kK => exact rfl); (case kd => ktr_room); (case ku => ktr_units); (case hT => assumption); (case U1 => (intro o'; k_upd)); (case U2 => (intro o' o''; k_upd)); (case ne => first | assumption | k_ne); (case m0 => decide); (case m1 => decide); intro r' t' so' lo' h' tk' F' N' hT' hr0' hr1')))

theorem item6 {prog : Program} {w : World} {A : Around} {E : Value → Shared → Prop} {s : Shared} {value slice : PySem.Expr} {l : Addr} {v0 v1 v2 v3 v4 v5 : Value} {k : Int} {u : Tok} {Q : Value → Shared → Prop}
    (hl : s.heap.IsList l [v0, v1, v2, v3, v4, v5].toArray) (h0 : 0 ≤ k) (h6 : k < 6) (q0 : Q v0 s) (q1 : Q v1 s) (q2 : Q v2 s) (q3 : Q v3 s) (q4 : Q v4 s) (q5 : Q v5 s)
    (hs : subscripted slice false (.ref l) (.int k u) = operate [.ref l, .int k u] (getItem (.ref l) (.int k u)) := by with_unfolding_all rfl) :
    wpAny (model prog w) A (subscriptTail value slice (.ref l) (.int k u)) Q E s := by
  have h : k = 0 ∨ k = 1 ∨ k = 2 ∨ k = 3 ∨ k = 4 ∨ k = 5 := by omega
  rcases h with rfl | rfl | rfl | rfl | rfl | rfl
  · exact my_item hl (by decide) (by decide) rfl q0 hs
  · exact my_item hl (by decide) (by decide) rfl q1 hs
  · exact my_item hl (by decide) (by decide) rfl q2 hs
  · exact my_item hl (by decide) (by decide) rfl q3 hs
  · exact my_item hl (by decide) (by decide) rfl q4 hs
  · exact my_item hl (by decide) (by decide) rfl q5 hs
local macro_rules | `(tactic| walk_at "subscriptTail") => `(tactic| (k_here; (with_reducible show wpAny _ _ (subscriptTail _ _ (Value.ref _) (Value.int _ _)) _ _ _); k_dflt (refine' item6 ?k1 ?k2 ?k3 ?_ ?_ ?_ ?_ ?_ ?_ ?k6; (case k1 => exact isListOf (by k_asm) (by k_mem)); (case k2 => assumption); (case k3 => assumption); (case k6 => with_unfolding_all rfl); all_goals k_whole)))

local macro_rules | `(tactic| walk_at "execs cons") => `(tactic| ((with_reducible show wpAny _ _ (execs (Stmt.Assign [Expr.Name (Str.ofString "bodies") _] _ _ :: _) _) _ _ _); refine halt ?_))

theorem m1 : ∀ {w : World} {dp un : Nat} {gd : Option (List Code)} {a : Addr} {ccd : Value} {outer : List Env} {A₀ : Around} {base h₀ : Heap} {L : Addr} {m : Str → Option Value} {s : Shared} {Q : Flow → Shared → Prop}
    {mean : ExcName → Option Value} {mg mb : Str → Option Value} {src l0 ip dip eb deb fb eg deg fg : Addr} {tg tb : Tok} {so lo oB oG : Obj} {esI eeb eeg : List DictEntry} {nI neb neg : Nat} {rest : List (Addr × Obj)}
    (B : Below A₀ base outer h₀) (F : Fr h₀ L s.heap m) (X : (hd.heap_39 w.params).In h₀) (N : News h₀ L s.heap ((src, so) :: (l0, lo) :: (dip, dictOf esI nI) :: (fg, oG) :: (fb, oB) :: rest)) (T : Top q (looseW q []) mean mg mb h₀) (hd : dp + 450 < recursionLimit) (hu : un + 4500 < cLine)
    (d_src_l0 : ¬ (@Eq Nat src l0)) (d_src_dip : ¬ (@Eq Nat src dip)) (d_src_fg : ¬ (@Eq Nat src fg)) (d_src_fb : ¬ (@Eq Nat src fb)) (d_l0_dip : ¬ (@Eq Nat l0 dip)) (d_l0_fg : ¬ (@Eq Nat l0 fg)) (d_l0_fb : ¬ (@Eq Nat l0 fb)) (d_dip_fg : ¬ (@Eq Nat dip fg)) (d_dip_fb : ¬ (@Eq Nat dip fb)) (d_fg_fb : ¬ (@Eq Nat fg fb)) (hipd : ¬ (@Eq Nat ip dip)) (o_src : ∀ p ∈ rest, p.1 ≠ src) (o_l0 : ∀ p ∈ rest, p.1 ≠ l0) (o_dip : ∀ p ∈ rest, p.1 ≠ dip) (o_fg : ∀ p ∈ rest, p.1 ≠ fg) (o_fb : ∀ p ∈ rest, p.1 ≠ fb)
    (hT : TakeOk l0 so lo) (hip : IpOk esI eb eg 0) (hm : ∀ p ∈ [(Str.ofString "source", Value.ref src), (Str.ofString "interp", Value.ref ip)], m p.1 = some p.2)
    (f1 : oG.IsDictOf (strKind PySem.Challenge.rw_pq1410_01.row.prog w) []) (f2 : (fg == sysModules) = false) (f3 : oB.IsDictOf (strKind PySem.Challenge.rw_pq1410_01.row.prog w) []) (f4 : (fb == sysModules) = false) (i1 : (ip, instObj 419 dip) ∈ rest)
    (e1 : (eg, instObj 167 deg) ∈ rest) (e2 : (deg, dictOf eeg neg) ∈ rest) (g1 : getL "number" eeg = some (some (.int 1 tg))) (g2 : getL "parent" eeg = some (some (.ref eb))) (g3 : getL "frame" eeg = some (some (.ref fg)))
    (e3 : (eb, instObj 167 deb) ∈ rest) (e4 : (deb, dictOf eeb neb) ∈ rest) (g4 : getL "number" eeb = some (some (.int 0 tb))) (g5 : getL "parent" eeb = some (some .none)) (g6 : getL "frame" eeb = some (some (.ref fb)))
    (hQ : ∀ (m' : Str → Option Value) (news' : List (Addr × Obj)) (h' : Heap) (tk' : Nat), Fr h₀ L h' m' → News h₀ L h' news' → Q (.ret (.bool true)) { s with heap := h', toks := tk' }),
    wpAny (model PySem.Challenge.rw_pq1410_01.row.prog w) (ktrTop dp un gd (Str.ofString "law") lawScope L a ccd [] outer) (execs (lawBody.drop 2) (envOf (Str.ofString "law") lawScope L a ccd)) Q (fun _ _ => False) s := by
  k_fill
  w_top off
  intro w dp un gd a ccd outer A₀ base h₀ L m s Q mean mg mb src l0 ip dip eb deb fb eg deg fg tg tb so lo oB oG esI eeb eeg nI neb neg rest B F X N T hd hu d_src_l0 d_src_dip d_src_fg d_src_fb d_l0_dip d_l0_fg d_l0_fb d_dip_fg d_dip_fb d_fg_fb hipd o_src o_l0 o_dip o_fg o_fb hT hip hm f1 f2 f3 f4 i1 e1 e2 g1 g2 g3 e3 e4 g4 g5 g6 hQ
  have hip0 := hip
  obtain ⟨p1, p2, p3, p4, kk, tkk, p5, p6, p7⟩ := hip
  have hm0 := map_of hm
  rw [hm0] at F
  dsimp only [kstB] at F
  have hsc : lawScope = ⟨_, _, _, _, _⟩ := rfl
  rw [hsc]
  show wpAny _ _ (execs (_ :: _ :: _ :: _ :: _ :: _ :: _ :: _ :: _ :: _ :: _ :: _ :: _ :: _ :: _ :: _ :: _ :: []) _) _ _ _
  k_steps
  all_goals (
    rename Fr h₀ L _ _ => F1
    rename News h₀ L _ _ => N1
    rename TakeOk _ _ _ => hT1
    unfold Halt)
  all_goals first
    | exact Mine.e1 (nm := Str.ofString "+") (ss := Str.ofString "operator") (rt := 0) B F1 X (newsSub N1 (fun _ h => .tail _ (.tail _ h))) T (room hd rfl) (room hu rfl) d_src_l0 d_src_dip d_src_fg d_src_fb d_l0_dip d_l0_fg d_l0_fb d_dip_fg d_dip_fb d_fg_fb hipd o_src o_l0 o_dip o_fg o_fb hT1 hip0 (by (repeat' (first | exact List.forall_mem_nil _ | refine List.forall_mem_cons.mpr ⟨rfl, ?_⟩))) f1 f2 f3 f4 i1 e1 e2 g1 g2 g3 e3 e4 g4 g5 g6 (by assumption) (by assumption) (.inl ⟨rfl, rfl, .inl rfl⟩) hQ
    | exact Mine.e1 (nm := Str.ofString "!") (ss := Str.ofString "operator") (rt := 0) B F1 X (newsSub N1 (fun _ h => .tail _ (.tail _ h))) T (room hd rfl) (room hu rfl) d_src_l0 d_src_dip d_src_fg d_src_fb d_l0_dip d_l0_fg d_l0_fb d_dip_fg d_dip_fb d_fg_fb hipd o_src o_l0 o_dip o_fg o_fb hT1 hip0 (by (repeat' (first | exact List.forall_mem_nil _ | refine List.forall_mem_cons.mpr ⟨rfl, ?_⟩))) f1 f2 f3 f4 i1 e1 e2 g1 g2 g3 e3 e4 g4 g5 g6 (by assumption) (by assumption) (.inl ⟨rfl, rfl, .inr rfl⟩) hQ
    | exact Mine.e1 (nm := Str.ofString "[") (ss := Str.ofString "index") (rt := 1) B F1 X (newsSub N1 (fun _ h => .tail _ (.tail _ (.tail _ h)))) T (room hd rfl) (room hu rfl) d_src_l0 d_src_dip d_src_fg d_src_fb d_l0_dip d_l0_fg d_l0_fb d_dip_fg d_dip_fb d_fg_fb hipd o_src o_l0 o_dip o_fg o_fb hT1 hip0 (by (repeat' (first | exact List.forall_mem_nil _ | refine List.forall_mem_cons.mpr ⟨rfl, ?_⟩))) f1 f2 f3 f4 i1 e1 e2 g1 g2 g3 e3 e4 g4 g5 g6 (by assumption) (by assumption) (.inr (.inl ⟨rfl, rfl, .inl rfl⟩)) hQ
    | exact Mine.e1 (nm := Str.ofString "[[") (ss := Str.ofString "index") (rt := 1) B F1 X (newsSub N1 (fun _ h => .tail _ (.tail _ (.tail _ h)))) T (room hd rfl) (room hu rfl) d_src_l0 d_src_dip d_src_fg d_src_fb d_l0_dip d_l0_fg d_l0_fb d_dip_fg d_dip_fb d_fg_fb hipd o_src o_l0 o_dip o_fg o_fb hT1 hip0 (by (repeat' (first | exact List.forall_mem_nil _ | refine List.forall_mem_cons.mpr ⟨rfl, ?_⟩))) f1 f2 f3 f4 i1 e1 e2 g1 g2 g3 e3 e4 g4 g5 g6 (by assumption) (by assumption) (.inr (.inl ⟨rfl, rfl, .inr rfl⟩)) hQ
    | exact Mine.e1 (nm := Str.ofString "if") (ss := Str.ofString "control") (rt := 2) B F1 X (newsSub N1 (fun _ h => .tail _ (.tail _ (.tail _ h)))) T (room hd rfl) (room hu rfl) d_src_l0 d_src_dip d_src_fg d_src_fb d_l0_dip d_l0_fg d_l0_fb d_dip_fg d_dip_fb d_fg_fb hipd o_src o_l0 o_dip o_fg o_fb hT1 hip0 (by (repeat' (first | exact List.forall_mem_nil _ | refine List.forall_mem_cons.mpr ⟨rfl, ?_⟩))) f1 f2 f3 f4 i1 e1 e2 g1 g2 g3 e3 e4 g4 g5 g6 (by assumption) (by assumption) (.inr (.inr ⟨rfl, rfl, .inl rfl⟩)) hQ
    | exact Mine.e1 (nm := Str.ofString "for") (ss := Str.ofString "control") (rt := 2) B F1 X (newsSub N1 (fun _ h => .tail _ (.tail _ (.tail _ h)))) T (room hd rfl) (room hu rfl) d_src_l0 d_src_dip d_src_fg d_src_fb d_l0_dip d_l0_fg d_l0_fb d_dip_fg d_dip_fb d_fg_fb hipd o_src o_l0 o_dip o_fg o_fb hT1 hip0 (by (repeat' (first | exact List.forall_mem_nil _ | refine List.forall_mem_cons.mpr ⟨rfl, ?_⟩))) f1 f2 f3 f4 i1 e1 e2 g1 g2 g3 e3 e4 g4 g5 g6 (by assumption) (by assumption) (.inr (.inr ⟨rfl, rfl, .inr rfl⟩)) hQ
end
section

local macro_rules | `(tactic| walk_at "call ref") => `(tactic| (k_here; (show wpAny _ _ (call (Value.ref 419) _) _ _ _); refine halt ?_))

local macro_rules | `(tactic| walk_at "execs cons") => `(tactic| ((with_reducible show wpAny _ _ (execs (Stmt.Assign [Expr.Name (Str.ofString "name") _] _ _ :: _) _) _ _ _); refine halt ?_))

theorem m0 : ∀ {w : World} {dp un : Nat} {gd : Option (List Code)} {a : Addr} {ccd : Value} {outer : List Env} {A₀ : Around} {base h₀ : Heap} {L : Addr} {m : Str → Option Value} {s : Shared} {Q : Flow → Shared → Prop}
    {mean : ExcName → Option Value} {mg mb : Str → Option Value} {src l0 : Addr} {so lo : Obj} {news : List (Addr × Obj)}
    (B : Below A₀ base outer h₀) (F : Fr h₀ L s.heap m) (X : (hd.heap_39 w.params).In h₀) (N : News h₀ L s.heap ((src, so) :: (l0, lo) :: news)) (T : Top q (looseW q []) mean mg mb h₀) (hd : dp + 500 < recursionLimit) (hu : un + 5000 < cLine)
    (hne : ¬ (@Eq Nat src l0)) (hT : TakeOk l0 so lo) (hm : ∀ p ∈ [(Str.ofString "source", Value.ref src)], m p.1 = some p.2)
    (hQ : ∀ (m' : Str → Option Value) (news' : List (Addr × Obj)) (h' : Heap) (tk' : Nat), Fr h₀ L h' m' → News h₀ L h' news' → Q (.ret (.bool true)) { s with heap := h', toks := tk' }),
    wpAny (model PySem.Challenge.rw_pq1410_01.row.prog w) (ktrTop dp un gd (Str.ofString "law") lawScope L a ccd [] outer) (execs (lawBody.drop 1) (envOf (Str.ofString "law") lawScope L a ccd)) Q (fun _ _ => False) s := by
  k_fill
  w_top off
  intro w dp un gd a ccd outer A₀ base h₀ L m s Q mean mg mb src l0 so lo news B F X N T hd hu hne hT hm hQ
  have hm0 := map_of hm
  rw [hm0] at F
  dsimp only [kstB] at F
  have hsc : lawScope = ⟨_, _, _, _, _⟩ := rfl
  rw [hsc]
  show wpAny _ _ (execs (_ :: _ :: _ :: _ :: _ :: _ :: _ :: _ :: _ :: _ :: _ :: _ :: _ :: _ :: _ :: _ :: _ :: _ :: []) _) _ _ _
  k_steps
  rename Fr h₀ L _ _ => F0
  rename News h₀ L _ _ => N0
  unfold Halt
  refine ev1 B F0 X N0 T rfl (room hd rfl) (room hu rfl) ?_
  intro ip dip eb deb fb eg deg fg esI eeb eeg nI neb neg oB oG tb tg h' tk' F' N' hip hB lB hG lG b1 b2 b3 g1 g2 g3 z0 z1 z2 z3 z4 z5 z6 z7
  clear F0 N0
  have a1 : @LT.lt Nat _ src dip := z0 _ (.head _)
  have a2 : @LT.lt Nat _ l0 dip := z0 _ (.tail _ (.head _))
  k_steps
  rename Fr h₀ L _ _ => F1
  rename News h₀ L _ _ => N1
  unfold Halt
  refine m1 B F1 X (newsSub N1 ?hN) T (room hd rfl) (room hu rfl) (src := src) (l0 := l0) (ip := ip) (dip := dip) (eb := eb) (deb := deb) (fb := fb) (eg := eg) (deg := deg) (fg := fg) (nI := nI) (rest := ((ip, instObj 419 dip) :: (eb, instObj 167 deb) :: (deb, dictOf eeb neb) :: (eg, instObj 167 deg) :: (deg, dictOf eeg neg) :: [])) hne (Nat.ne_of_lt (by omega)) (Nat.ne_of_lt (by omega)) (Nat.ne_of_lt (by omega)) (Nat.ne_of_lt (by omega)) (Nat.ne_of_lt (by omega)) (Nat.ne_of_lt (by omega)) (Nat.ne_of_lt (by omega)) (Nat.ne_of_lt (by omega)) (Nat.ne_of_gt (by omega)) (Nat.ne_of_gt (by omega)) ?o1 ?o2 ?o3 ?o4 ?o5 hT hip (by (repeat' (first | exact List.forall_mem_nil _ | refine List.forall_mem_cons.mpr ⟨rfl, ?_⟩))) hG lG hB lB (.head _) (.tail _ (.tail _ (.tail _ (.head _)))) (.tail _ (.tail _ (.tail _ (.tail _ (.head _))))) g1 g2 g3 (.tail _ (.head _)) (.tail _ (.tail _ (.head _))) b1 b2 b3 hQ
  case hN =>
    intro p hp
    simp only [List.mem_cons, List.not_mem_nil, or_false] at hp ⊢
    rcases hp with h | h | h | h | h | h | h | h | h | h <;> simp [h]
  all_goals (refine List.forall_mem_cons.mpr ⟨?_, List.forall_mem_cons.mpr ⟨?_, List.forall_mem_cons.mpr ⟨?_, List.forall_mem_cons.mpr ⟨?_, List.forall_mem_cons.mpr ⟨?_, List.forall_mem_nil _⟩⟩⟩⟩⟩ <;> dsimp only <;> (first | exact Nat.ne_of_gt (by omega) | exact Nat.ne_of_lt (by omega)))
end
end
section

local macro_rules | `(tactic| k_ne) => `(tactic| (refine neN ?_; (try dsimp only); first | exact Nat.ne_of_lt (by with_reducible assumption) | exact Nat.ne_of_gt (by with_reducible assumption) | with_reducible assumption | exact fun e => absurd e.symm (by with_reducible assumption) | exact Nat.ne_of_lt (ltc (by with_reducible assumption) (by with_reducible assumption)) | exact Nat.ne_of_gt (ltc (by with_reducible assumption) (by with_reducible assumption)) | exact Nat.ne_of_lt (ltc (by with_reducible assumption) (ltc (by with_reducible assumption) (by with_reducible assumption))) | exact Nat.ne_of_gt (ltc (by with_reducible assumption) (ltc (by with_reducible assumption) (by with_reducible assumption))) | exact Nat.ne_of_lt (ltc (by with_reducible assumption) (ltc (by with_reducible assumption) (ltc (by with_reducible assumption) (by with_reducible assumption)))) | exact Nat.ne_of_gt (ltc (by with_reducible assumption) (ltc (by with_reducible assumption) (ltc (by with_reducible assumption) (by with_reducible assumption)))) | omega))

local macro_rules | `(tactic| walk_at "execs cons") => `(tactic| ((with_reducible show wpAny _ _ (execs (Stmt.Assign [Expr.Name (Str.ofString "interp") _] _ _ :: _) _) _ _ _); refine halt ?_))

theorem seed_ok (l : List Int) : 0 ≤ 1 + l.sum.fmod 9973 ∧ 1 + l.sum.fmod 9973 < 2147483563 := by
  have h0 : 0 ≤ Int.fmod l.sum 9973 := Int.fmod_nonneg_of_pos _ (by decide)
  have h1 : Int.fmod l.sum 9973 < 9973 := Int.fmod_lt_of_pos _ (by decide)
  omega
theorem take_len (l : List Int) : (l.take 40).length ≤ 63 := by
  rw [List.length_take]
  omega
theorem mm : PySem.Challenge.rw_pq1410_01.Holds := hd (by
  k_go0
  all_goals try k_fold
  all_goals k_steps
  unfold Halt
  rename Fr _ _ _ _ => F1
  rename News _ _ _ _ => N1
  rename Below callerA _ _ _ => B1
  rename Frag.In _ _ => X1
  rename Top _ _ _ _ _ _ => T1
  rename (_ ∧ _ ∧ _) => l3
  refine wpAny_mono (m0 (dp := 302) (un := 7) (gd := some []) (outer := []) (A₀ := callerA) B1 F1 X1 (newsSub N1 (List.forall_mem_cons.mpr ⟨.head _, List.forall_mem_cons.mpr ⟨.tail _ (.tail _ (.head _)), List.forall_mem_nil _⟩⟩)) T1 (by decide) (by decide) (Nat.ne_of_gt l3.2.1) ⟨_, _, _, _, _, _, _, _, rfl, rfl, by assumption, take_len _, by decide, (seed_ok _).1, (seed_ok _).2⟩ (by (repeat' (first | exact List.forall_mem_nil _ | refine List.forall_mem_cons.mpr ⟨rfl, ?_⟩))) ?hQ) (fun _ _ h => h) (fun _ _ h => h.elim)
  case hQ =>
    intro m' news' h' tk' F' N'
    k_steps)
end
end Mine
theorem PySem.Challenge.cw_pq1410_01_holds : PySem.Challenge.rw_pq1410_01.Holds :=
  Mine.mm

