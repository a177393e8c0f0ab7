import PyProof.Rows.All
import Wide.All
import OpenK.AllK
import Wide.FinOn
import PySem.Challenge.RW_nz0253_01
open PySem PySem.W PyProof.Rows
set_option Elab.async false
namespace Mine
set_option maxRecDepth 100000
set_option maxHeartbeats 8000000
lay_quick PySem.W.topFrom PySem.W.topStub PySem.W.openGood PySem.W.xlAt PySem.W.recOk
noncomputable def vw : Program := view PySem.Challenge.rw_nz0253_01.row.prog [0, 2, 3, 5, 7, 8, 9, 10, 11, 12, 13, 14, 15, 16, 17, 18, 19, 21, 22, 23, 24, 25, 26, 27, 28, 29, 30, 31, 32, 34, 35, 36, 38, 39, 40, 41, 42, 43, 44, 45, 46, 47]
theorem left_of {p q : Program} {loose : List Str} {Xt : Shared → Bool} {α : Type} {Yf : Shared → α} {Ya : World → α} {N : Nat} {g0 : Bool}
    (e : opening p = plainProg p.main.scope.names) (hN : Nat.ble 600 N = true) (f : ∀ s, fenceModules? p s = some s)
    (h : ∀ (w : World) (os : OsState), (topFrom treeTable p w N ⟨boot_heap w.params, #[], boot_drawn, boot_toks, os⟩).map (fun s => (openSeen q loose (importedModules p.main.body) Xt g0 s, Yf s)) = some (openGood q loose, Ya w)) :
    LeftO p q loose Xt Yf Ya N g0 := fun w => by
  obtain ⟨⟨h', gs, d, k, os⟩, e', e''⟩ := Option.map_eq_some_iff.mp (boot_open e hN f w)
  simp only [Prod.mk.injEq] at e''
  obtain ⟨rfl, rfl, rfl, rfl⟩ := e''
  unfold openEnds
  rw [e']
  exact h w os
theorem left_of2 {p q : Program} {loose : List Str} {Xt : Shared → Bool} {α : Type} {Yf : Shared → α} {Ya : World → α} {N : Nat} {g0 : Bool}
    (e : opening p = plainProg p.main.scope.names) (hN : Nat.ble 600 N = true) (f : ∀ s, fenceModules? p s = some s)
    (h1 : ∀ (w : World) (os : OsState), (topFrom treeTable p w N ⟨boot_heap w.params, #[], boot_drawn, boot_toks, os⟩).map (openSeen q loose (importedModules p.main.body) Xt g0) = some (openGood q loose))
    (h2 : ∀ (w : World) (os : OsState), (topFrom treeTable p w N ⟨boot_heap w.params, #[], boot_drawn, boot_toks, os⟩).map Yf = some (Ya w)) :
    LeftO p q loose Xt Yf Ya N g0 := left_of e hN f fun w os => by
  obtain ⟨s, e1, e2⟩ := Option.map_eq_some_iff.mp (h1 w os)
  have e3 := h2 w os
  rw [e1, Option.map_some, Option.some.injEq] at e3
  rw [e1, Option.map_some, e2, e3]
theorem run1 (w : World) (os : OsState) : (topFrom treeTable PySem.Challenge.rw_nz0253_01.row.prog w 5502 ⟨boot_heap w.params, #[], boot_drawn, boot_toks, os⟩).map (openSeen vw [] (importedModules PySem.Challenge.rw_nz0253_01.row.prog.main.body) (fun s => xlAt vw [] s && recOk PySem.Challenge.rw_nz0253_01.row.records s) true) = some (openGood vw []) := by
  rw [PySem.W.Fast.te370005188180407882, PySem.W.Fast.te14364793385576792824, PySem.W.Fast.te4187177175401517315, PySem.W.Fast.te3486900944545009338, PySem.W.Fast.te4757257242682413121]; kernel_rfl
theorem said : PySem.W.OpenLaw.wellSaid PySem.Challenge.rw_nz0253_01 = true := by
  rw [PySem.W.Fast.te9446332074065402090]; kernel_rfl
local macro_rules | `(tactic| o_law) => `(tactic| refine PySem.W.holds_law said fun said1 => ?_)
local macro_rules | `(tactic| o_head $H:term) => `(tactic| (
  refine holds_open (q := vw) (loose := []) (Xt := fun s => xlAt vw [] s && recOk (RowW.records (OpenRow.toRowW PySem.Challenge.rw_nz0253_01.row)) s) (XP := XL vw []) (Yf := Hook.obs $H) (Ya := Hook.val $H) (YP := Hook.says $H) (N := 5502) ?hl (Hook.of $H) (Hook.keeps $H) (fun s e => xl_of s (Bool.and_eq_true_iff.mp e).1) XL.keeps (by rfl) (by rfl) (by rfl) (fun s e => recFacts_of (Bool.and_eq_true_iff.mp e).2) (by rfl) (by first | assumption | decide +kernel) (by decide +kernel) ⟨rfl, rfl, rfl, rfl, rfl, by decide +kernel⟩ ?hw ?hc
  (case hl => (refine left_of2 (by kernel_rfl) rfl (fun s => rfl) run1 ?_; intro w os; rw [PySem.W.Fast.te370005188180407882, PySem.W.Fast.te14364793385576792824]; kernel_rfl))))
open_top hd for PySem.Challenge.rw_nz0253_01
end Mine

open PySem PySem.W PyProof.Rows PySem.Calls
set_option Elab.async false
set_option maxRecDepth 100000
namespace Mine

/-- surroundings for a contract: nothing is assumed of the frames above -/
abbrev AA (d u : Nat) : Around := { handled := none, depth := d, frames := none, guards := none, units := u }

theorem in_AA {Γ : Ctx} {A : Around} {d u : Nat} (h : Γ.In A) (hh : A.handled = none) (hd : A.depth ≤ d) (hu : A.units ≤ u) : Γ.In (AA d u) :=
  ⟨h.1.trans hh, Nat.le_trans h.2.1 hd, (fun _ e => nomatch e), (fun _ e => nomatch e), Nat.le_trans h.2.2.2.2 hu⟩

theorem of_AA {α : Type} {M : Model} {A : Around} {t : Sem α} {Q : α → Shared → Prop} {E : Value → Shared → Prop} {s : Shared} (d u : Nat)
    (h : wpAny M (AA d u) t Q E s) (hh : A.handled = none) (hd : A.depth ≤ d) (hu : A.units ≤ u) : wpAny M A t Q E s :=
  fun Γ p hΓ => h Γ p (in_AA hΓ hh hd hu)

/-- what stands of the text in a heap: its written part, its names, the built-ins -/
structure Amb (K : Frag) (mg mb : Str → Option Value) (h : Heap) : Prop where
  k : K.In h
  t : TopRead vw (looseW vw []) mg mb h

theorem Amb.keeps {K : Frag} {mg mb : Str → Option Value} {h h' : Heap} (X : Amb K mg mb h) (hk : ∀ b o, h.get? b = some o → h'.get? b = some o) : Amb K mg mb h' := ⟨X.k.keeps hk, X.t.keeps hk⟩

theorem enter_def {prog : Program} {w : World} {d u : Nat} {E : Value → Shared → Prop} {Q : Value → Shared → Prop} {s : Shared} {K : Frag} {mg mb : Str → Option Value} {h₀ : Heap}
    {name qual : Str} {params : Arguments} {body : List Stmt} {scope : Scope} {dV kV doc pm cdv ct oc : Value} {an od : Option Addr} {osl : Array (Option Value)} {f : Addr} {args : List Value} {binds : List (Str × Value)}
    (X : Amb K mg mb h₀) (st : ∀ b o, h₀.get? b = some o → s.heap.get? b = some o) (W : List (Addr × Obj)) (hW : ∀ p ∈ W, s.heap.get? p.1 = some p.2 ∧ h₀.get? p.1 = none)
    (ho : K.lookup f = some ⟨oc, od, .func (fnOf name qual params body scope dV kV doc pm an cdv ct), osl⟩) (hcd : codeIn K cdv qual = true) (hroom : d < recursionLimit)
    (hbind : BindsTo s (fnOf name qual params body scope dV kV doc pm an cdv ct) ⟨args, []⟩ binds) (hloc : ∀ y ∈ binds, scope.names.lookup y.1 = some .local)
    (h : ∀ g L' h₁, Fr g L' h₁ (fun y => binds.reverse.lookup y) → News g L' h₁ W → K.In g → TopRead vw (looseW vw []) mg mb g →
      (∀ b o, s.heap.get? b = some o → b ∉ W.map (·.1) → g.get? b = some o) → (∀ b o, g.get? b = some o → s.heap.get? b = some o) →
      wpAny (model prog w) (AA (d + 1) (u + 3)) (execs body (envOf qual scope L' f cdv))
        (fun fl s' => Q (match fl with | .ret v => v | _ => .none) s') (fun _ _ => False)
        { s with heap := h₁, toks := s.toks + binds.length })
    (hco : scope.isCoroutine = false := by rfl) (hgen : scope.isGenerator = false := by rfl) (hk : scope.kind = .function := by rfl)
    (hcell : ∀ x ∈ scope.names, x.2 ≠ .cell := by decide) :
    wpAny (model prog w) (AA d u) (call (.ref f) args) Q E s := by
  have st₁ : ∀ b o, h₀.get? b = some o → (hideAll s.heap (W.map (·.1))).get? b = some o := fun b o e => hideAll_get _ (st b o e) fun hm => by
    obtain ⟨p, hp, rfl⟩ := List.mem_map.mp hm
    rw [(hW p hp).2] at e; cases e
  have X₁ := X.keeps st₁
  refine wpAny_call ?_
  refine codeAny_call_def (fd := fnOf name qual params body scope dV kV doc pm an cdv ct) (body := body) (binds := binds) hroom ((X.k.keeps st) _ _ ho) rfl (X.t.nolimit.keeps st) (codeRec_of (X.k.keeps st) hcd) rfl hbind hcell hloc (fun h₁ hns hk₁ => ?_) hco hgen hk
  refine wpAny_mono (of_AA (d + 1) (u + 3) (h _ s.heap.objs.size h₁ ⟨hns, fun b o e => hk₁ b o (of_hideAll _ e), Nat.le_of_eq (hideAll_size _ _)⟩ (fun p hp => ?_) X₁.k X₁.t (fun b o e n => hideAll_get _ e n) (fun b o e => of_hideAll _ e)) rfl (Nat.le_refl _) (Nat.le_refl _)) (fun _ _ x => x) (fun _ _ x => x.elim)
  exact ⟨hk₁ _ _ (hW p hp).1, Nat.ne_of_lt (Heap.lt_size (hW p hp).1), hideAll_none _ (List.mem_map_of_mem hp)⟩

end Mine

namespace Mine
open PySem.Spec
theorem enter_cells {prog : Program} {w : World} {d u : Nat} {E : Value → Shared → Prop} {Q : Value → Shared → Prop} {s : Shared} {K : Frag} {mg mb : Str → Option Value} {h₀ : Heap}
    {name qual : Str} {params : Arguments} {body : List Stmt} {scope : Scope} {dV kV doc pm cdv ct oc : Value} {an od : Option Addr} {osl : Array (Option Value)} {f : Addr} {args : List Value} {binds : List (Str × Value)}
    (X : Amb K mg mb h₀) (st : ∀ b o, h₀.get? b = some o → s.heap.get? b = some o) (W : List (Addr × Obj)) (hW : ∀ p ∈ W, s.heap.get? p.1 = some p.2 ∧ h₀.get? p.1 = none)
    (ho : K.lookup f = some ⟨oc, od, .func (fnOf name qual params body scope dV kV doc pm an cdv ct), osl⟩) (hcd : codeIn K cdv qual = true) (hroom : d < recursionLimit)
    (hbind : BindsTo s (fnOf name qual params body scope dV kV doc pm an cdv ct) ⟨args, []⟩ binds)
    (hkind : (binds.all fun y => scope.names.lookup y.1 == some .local || scope.names.lookup y.1 == some .cell) = true)
    (hnd : ((cellsFrom 0 scope.names []).map (·.1)).Nodup)
    (h : ∀ g L' h₁ tk cells, Fr g L' h₁ (bindL (envOfC qual scope L' f cdv).kindOf binds fun _ => none) → News g L' h₁ (cells ++ W) →
      CellsAre (bindC (envOfC qual scope L' f cdv).kindOf binds fun _ => none) (cellsFrom (L' + 1) scope.names []) cells → K.In g → TopRead vw (looseW vw []) mg mb g →
      (∀ b o, s.heap.get? b = some o → b ∉ W.map (·.1) → g.get? b = some o) → (∀ b o, g.get? b = some o → s.heap.get? b = some o) →
      wpAny (model prog w) (AA (d + 1) (u + 3)) (execs body (envOfC qual scope L' f cdv))
        (fun fl s' => Q (match fl with | .ret v => v | _ => .none) s') (fun _ _ => False)
        { s with heap := h₁, toks := tk })
    (hco : scope.isCoroutine = false := by rfl) (hgen : scope.isGenerator = false := by rfl) (hk : scope.kind = .function := by rfl) :
    wpAny (model prog w) (AA d u) (call (.ref f) args) Q E s := by
  have st₁ : ∀ b o, h₀.get? b = some o → (hideAll s.heap (W.map (·.1))).get? b = some o := fun b o e => hideAll_get _ (st b o e) fun hm => by
    obtain ⟨p, hp, rfl⟩ := List.mem_map.mp hm
    rw [(hW p hp).2] at e; cases e
  have X₁ := X.keeps st₁
  refine wpAny_call ?_
  refine codeAny_call_function hroom ((X.k.keeps st) _ _ ho) rfl hco hgen rfl (codeRec_of (X.k.keeps st) hcd) (hbind _ _ _ _ ?_)
  refine wpAny_newFunctionEnv_cells hk (kindsX hkind _) fun env' he s' x => ?_
  subst he
  refine ⟨(X.t.nolimit.keeps st).keeps x.toInCall.keep, codeAny_func ?_⟩
  obtain ⟨h₁, tk, rfl, _⟩ := x.done
  have hk₁ := x.toInCall.keep
  obtain ⟨cells, NC, Y⟩ := Cl.news (h₀ := s.heap) (Nat.le_refl _) fun n c hm => ⟨x.cell n c (lookup_of_mem_nodup (cellsFrom_names scope.names 0 (s.heap.objs.size + 1) [] [] rfl ▸ hnd) hm), x.above n c hm⟩
  refine wpAny_mono (of_AA (d + 1) (u + 3) (h _ s.heap.objs.size h₁ tk cells ⟨x.toInCall.ns, fun b o e => hk₁ b o (of_hideAll _ e), Nat.le_of_eq (hideAll_size _ _)⟩ (fun p hp => ?_) Y X₁.k X₁.t (fun b o e n => hideAll_get _ e n) (fun b o e => of_hideAll _ e)) rfl (Nat.le_refl _) (Nat.le_refl _)) (fun _ _ x => x) (fun _ _ x => x.elim)
  rcases List.mem_append.mp hp with hp | hp
  · refine ⟨(NC p hp).1, (NC p hp).2.1, ?_⟩
    cases q : (hideAll s.heap (W.map (·.1))).get? p.1 with
    | none => rfl
    | some o => have := of_hideAll _ q; rw [(NC p hp).2.2] at this; cases this
  · exact ⟨hk₁ _ _ (hW p hp).1, Nat.ne_of_lt (Heap.lt_size (hW p hp).1), hideAll_none _ (List.mem_map_of_mem hp)⟩
end Mine

open PySem PySem.W PyProof.Rows PySem.Calls
set_option Elab.async false
set_option maxRecDepth 100000
namespace Mine
abbrev PR := PySem.Challenge.rw_nz0253_01.row.prog
abbrev TR (mg mb : Str → Option Value) (h : Heap) : Prop := TopRead vw (looseW vw []) mg mb h

abbrev Led (h h' : Heap) (tl : List (Addr × Obj)) : Prop := ∀ p ∈ tl, h'.get? p.1 = some p.2 ∧ h.get? p.1 = none
abbrev At (h : Heap) : Addr → Obj → Prop := fun a o => h.get? a = some o
abbrev On (tl : List (Addr × Obj)) : Addr → Obj → Prop := fun a o => (a, o) ∈ tl

/-- a contract of a def that changes nothing that stood before -/
def Con (D U : Nat) (w : World) (f : Addr) (args : List Value) (Pre : (Addr → Obj → Prop) → Prop) (Post : (Addr → Obj → Prop) → Value → Prop) : Prop :=
  ∀ (E Q : Value → Shared → Prop) (s : Shared) (mg mb : Str → Option Value) (h₀ : Heap), Amb (hd.heap_1 w.params) mg mb h₀ → h₀.StaysIn s.heap → Pre (At s.heap) →
    (∀ r h' tk' tl, s.heap.StaysIn h' → Led s.heap h' tl → Post (On tl) r → Q r { s with heap := h', toks := tk' }) →
    wpAny (model PR w) (AA D U) (call (.ref f) args) Q E s

theorem fr_led {g h h' : Heap} {L : Addr} {m : Str → Option Value} {news tl : List (Addr × Obj)} (F : Fr g L h m) (N : News g L h news) (hk : h.StaysIn h') (hl : Led h h' tl) :
    Fr g L h' m ∧ News g L h' (tl ++ news) ∧ ∀ p ∈ tl, ∀ q ∈ news, p.1 ≠ q.1 := by
  refine ⟨F.keeps hk, fun p hp => ?_, fun p hp q hq e => ?_⟩
  · rcases List.mem_append.mp hp with hp | hp
    · refine ⟨(hl p hp).1, fun e => ?_, ?_⟩
      · obtain ⟨o, _, _, ho, _⟩ := F.ns
        rw [← e, (hl p hp).2] at ho; cases ho
      · cases q : g.get? p.1 with
        | none => rfl
        | some o => have := F.keep _ _ q; rw [(hl p hp).2] at this; cases this
    · exact ⟨hk _ _ (N p hp).1, (N p hp).2⟩
  · have h1 := (hl p hp).2
    rw [e, (N q hq).1] at h1
    cases h1

theorem Con.use {D U : Nat} {w : World} {f : Addr} {args : List Value} {Pre : (Addr → Obj → Prop) → Prop} {Post : (Addr → Obj → Prop) → Value → Prop} (C : Con D U w f args Pre Post)
    {A : Around} {E Q : Value → Shared → Prop} {s : Shared} {mg mb : Str → Option Value} {g : Heap} {L : Addr} {m : Str → Option Value} {news : List (Addr × Obj)}
    (KX : (hd.heap_1 w.params).In g) (T : TR mg mb g) (F : Fr g L s.heap m) (N : News g L s.heap news) (pre : Pre (At s.heap))
    (k : ∀ r h' tk' tl, Fr g L h' m → News g L h' (tl ++ news) → (∀ p ∈ tl, ∀ q ∈ news, p.1 ≠ q.1) → Post (On tl) r → Q r { s with heap := h', toks := tk' })
    (hA : A.handled = none := by rfl) (hd : A.depth ≤ D := by decide) (hu : A.units ≤ U := by decide) :
    wpAny (model PR w) A (call (.ref f) args) Q E s :=
  of_AA D U (C E Q s mg mb g ⟨KX, T⟩ F.keep pre fun r h' tk' tl hk hl hp => let ⟨F', N', o⟩ := fr_led F N hk hl; k r h' tk' tl F' N' o hp) hA hd hu

theorem led_of {g h h' : Heap} {L : Addr} {news : List (Addr × Obj)} (N : News g L h' news) (up : h.StaysIn g) : Led h h' news := fun p hp => ⟨(N p hp).1, by
  cases q : h.get? p.1 with
  | none => rfl
  | some o => have := up _ _ q; rw [(N p hp).2.2] at this; cases this⟩
theorem stays_of {g h h' : Heap} {L : Addr} {m : Str → Option Value} (F : Fr g L h' m) (up : h.StaysIn g) : h.StaysIn h' := fun b o e => F.keep b o (up b o e)

/-! data over a set of entries -/
def LstS (S : Addr → Obj → Prop) (a : Addr) (vs : List Value) : Prop := ∃ o n, S a o ∧ o.cls = .type "list" ∧ o.data = .seq vs.toArray n
def IntsS (S : Addr → Obj → Prop) (a : Addr) (xs : List Int) : Prop := ∃ vs, LstS S a vs ∧ IntsAre vs xs
abbrev refs (as : List Addr) : List Value := as.map .ref
inductive All2 {α β : Type} (R : α → β → Prop) : List α → List β → Prop
  | nil : All2 R [] []
  | cons {a b as bs} : R a b → All2 R as bs → All2 R (a :: as) (b :: bs)

theorem LstS.mono {S S' : Addr → Obj → Prop} {a vs} (h : LstS S a vs) (k : ∀ a o, S a o → S' a o) : LstS S' a vs := let ⟨o, n, x, y⟩ := h; ⟨o, n, k _ _ x, y⟩
theorem IntsS.mono {S S' : Addr → Obj → Prop} {a xs} (h : IntsS S a xs) (k : ∀ a o, S a o → S' a o) : IntsS S' a xs := let ⟨vs, x, y⟩ := h; ⟨vs, x.mono k, y⟩
theorem All2.imp {α β : Type} {R R' : α → β → Prop} (k : ∀ a b, R a b → R' a b) {as bs} (h : All2 R as bs) : All2 R' as bs := by
  induction h with
  | nil => exact .nil
  | cons x _ ih => exact .cons (k _ _ x) ih
theorem All2.length {α β : Type} {R : α → β → Prop} {as bs} (h : All2 R as bs) : as.length = bs.length := by
  induction h with
  | nil => rfl
  | cons _ _ ih => simp [ih]
theorem All2.append {α β : Type} {R : α → β → Prop} {as bs as' bs'} (h : All2 R as bs) (h' : All2 R as' bs') : All2 R (as ++ as') (bs ++ bs') := by
  induction h with
  | nil => exact h'
  | cons x _ ih => exact .cons x ih
theorem All2.get {α β : Type} {R : α → β → Prop} {as : List α} {bs : List β} (h : All2 R as bs) : ∀ {i : Nat} {b : β}, bs[i]? = some b → ∃ a, as[i]? = some a ∧ R a b := by
  induction h with
  | nil => intro i b e; cases e
  | cons x _ ih =>
    intro i b e
    cases i with
    | zero => simp at e; subst e; exact ⟨_, rfl, x⟩
    | succ i => simpa using ih (by simpa using e)
theorem All2.snoc {α β : Type} {R : α → β → Prop} {as bs a b} (h : All2 R as bs) (x : R a b) : All2 R (as ++ [a]) (bs ++ [b]) := h.append (.cons x .nil)
theorem All2.take {α β : Type} {R : α → β → Prop} {as : List α} {bs : List β} (h : All2 R as bs) (n : Nat) : All2 R (as.take n) (bs.take n) := by
  induction h generalizing n with
  | nil => simp; exact .nil
  | cons x _ ih =>
    cases n with
    | zero => exact .nil
    | succ n => exact .cons x (ih n)
def ListsS (S : Addr → Obj → Prop) (a : Addr) (xss : List (List Int)) : Prop := ∃ as, LstS S a (refs as) ∧ All2 (IntsS S) as xss
theorem ListsS.mono {S S' : Addr → Obj → Prop} {a xs} (h : ListsS S a xs) (k : ∀ a o, S a o → S' a o) : ListsS S' a xs := let ⟨as, x, y⟩ := h; ⟨as, x.mono k, y.imp fun _ _ z => z.mono k⟩

theorem LstS.isList {h : Heap} {a vs} (x : LstS (At h) a vs) : h.IsList a vs.toArray := let ⟨o, n, x, y, z⟩ := x; ⟨o, x, y, n, z⟩
theorem isList_LstS {h : Heap} {a : Addr} {vs : List Value} (x : h.IsList a vs.toArray) : LstS (At h) a vs := let ⟨o, x, y, n, z⟩ := x; ⟨o, n, x, y, z⟩

/-- a component: its across and its down -/
def CompS (S : Addr → Obj → Prop) (x : Addr) (c : Int × Int) : Prop :=
  ∃ dx h1 h2 h3 h4 k1 k2 k3 k4 v1 v4 t2 t3, S x (instObj 255 dx) ∧
    S dx (dictOf [⟨h1, .str "ident" k1, v1⟩, ⟨h2, .str "across" k2, .int c.1 t2⟩, ⟨h3, .str "down" k3, .int c.2 t3⟩, ⟨h4, .str "quant" k4, v4⟩] 4)
structure FrameD where
  kind : String
  comps : List (Int × Int)
  n : Int
def FrameI (S : Addr → Obj → Prop) (x : Addr) (kind : String) (cs : Addr) (n : Int) : Prop :=
  ∃ dx h1 h2 h3 h4 h5 h6 k1 k2 k3 k4 k5 k6 t1 v2 v3 v4 t6, S x (instObj 321 dx) ∧
    S dx (dictOf [⟨h1, .str "kind" k1, .str (Str.ofString kind) t1⟩, ⟨h2, .str "precision" k2, v2⟩, ⟨h3, .str "height" k3, v3⟩, ⟨h4, .str "width" k4, v4⟩, ⟨h5, .str "components" k5, .ref cs⟩, ⟨h6, .str "n" k6, .int n t6⟩] 6)
def FrameS (S : Addr → Obj → Prop) (x : Addr) (f : FrameD) : Prop := ∃ cs as, FrameI S x f.kind cs f.n ∧ LstS S cs (refs as) ∧ All2 (CompS S) as f.comps
structure ScanD where
  places : List Int
  dc : List Int
  ac : List Int
  start : Int
  stop : Int
  high : Int
  low : Int
def ScanI (S : Addr → Obj → Prop) (x pl dc ac : Addr) (start stop high low : Int) : Prop :=
  ∃ dx h1 h2 h3 h4 h5 h6 h7 k1 k2 k3 k4 k5 k6 k7 t4 t5 t6 t7, S x (instObj 84 dx) ∧
    S dx (dictOf [⟨h1, .str "places" k1, .ref pl⟩, ⟨h2, .str "dc_slots" k2, .ref dc⟩, ⟨h3, .str "ac_slots" k3, .ref ac⟩, ⟨h4, .str "start" k4, .int start t4⟩, ⟨h5, .str "end" k5, .int stop t5⟩, ⟨h6, .str "high" k6, .int high t6⟩, ⟨h7, .str "low" k7, .int low t7⟩] 7)
def ScanS (S : Addr → Obj → Prop) (x : Addr) (c : ScanD) : Prop :=
  ∃ pl dc ac, ScanI S x pl dc ac c.start c.stop c.high c.low ∧ IntsS S pl c.places ∧ IntsS S dc c.dc ∧ IntsS S ac c.ac
def ScansS (S : Addr → Obj → Prop) (a : Addr) (cs : List ScanD) : Prop := ∃ as, LstS S a (refs as) ∧ All2 (ScanS S) as cs
theorem CompS.mono {S S' : Addr → Obj → Prop} {a c} (h : CompS S a c) (k : ∀ a o, S a o → S' a o) : CompS S' a c := by
  obtain ⟨dx, h1, h2, h3, h4, k1, k2, k3, k4, v1, v4, t2, t3, x, y⟩ := h
  exact ⟨dx, h1, h2, h3, h4, k1, k2, k3, k4, v1, v4, t2, t3, k _ _ x, k _ _ y⟩
theorem FrameI.mono {S S' : Addr → Obj → Prop} {a kd c n} (h : FrameI S a kd c n) (k : ∀ a o, S a o → S' a o) : FrameI S' a kd c n := by
  obtain ⟨dx, h1, h2, h3, h4, h5, h6, k1, k2, k3, k4, k5, k6, t1, v2, v3, v4, t6, x, y⟩ := h
  exact ⟨dx, h1, h2, h3, h4, h5, h6, k1, k2, k3, k4, k5, k6, t1, v2, v3, v4, t6, k _ _ x, k _ _ y⟩
theorem FrameS.mono {S S' : Addr → Obj → Prop} {a c} (h : FrameS S a c) (k : ∀ a o, S a o → S' a o) : FrameS S' a c :=
  let ⟨cs, as, x, y, z⟩ := h; ⟨cs, as, x.mono k, y.mono k, z.imp fun _ _ q => q.mono k⟩
theorem ScanI.mono {S S' : Addr → Obj → Prop} {a p d c s e hi lo} (h : ScanI S a p d c s e hi lo) (k : ∀ a o, S a o → S' a o) : ScanI S' a p d c s e hi lo := by
  obtain ⟨dx, h1, h2, h3, h4, h5, h6, h7, k1, k2, k3, k4, k5, k6, k7, t4, t5, t6, t7, x, y⟩ := h
  exact ⟨dx, h1, h2, h3, h4, h5, h6, h7, k1, k2, k3, k4, k5, k6, k7, t4, t5, t6, t7, k _ _ x, k _ _ y⟩
theorem ScanS.mono {S S' : Addr → Obj → Prop} {a c} (h : ScanS S a c) (k : ∀ a o, S a o → S' a o) : ScanS S' a c :=
  let ⟨pl, dc, ac, z, x⟩ := h; ⟨pl, dc, ac, z.mono k, x.1.mono k, x.2.1.mono k, x.2.2.mono k⟩
theorem ScansS.mono {S S' : Addr → Obj → Prop} {a c} (h : ScansS S a c) (k : ∀ a o, S a o → S' a o) : ScansS S' a c := let ⟨as, x, y⟩ := h; ⟨as, x.mono k, y.imp fun _ _ z => z.mono k⟩
end Mine

open PySem PySem.W PyProof.Rows PySem.Calls
set_option Elab.async false
set_option maxRecDepth 100000
namespace Mine
section
variable {prog : Program} {w : World} {A : Around} {E : Value → Shared → Prop} {s : Shared}
theorem item_vals {value slice : PySem.Expr} {l : Addr} {vs : List Value} {k : Int} {u : Tok} {Q : Value → Shared → Prop} (hl : s.heap.IsList l vs.toArray)
    (h0 : 0 ≤ k) (h1 : k < vs.length) (hfit : k < 2 ^ 63) (h : ∀ v, vs[k.toNat]? = some v → Q v s)
    (hs : subscripted slice false (.ref l) (.int k u) = operate [.ref l, .int k u] (getItem (.ref l) (.int k u)) := by with_unfolding_all rfl) :
    wpAny (model prog w) A (subscriptTail value slice (.ref l) (.int k u)) Q E s := by
  have hk : k.toNat < vs.length := by omega
  have hx : vs[k.toNat]? = some vs[k.toNat] := List.getElem?_eq_getElem hk
  exact tail_any hl.typeIs slot_list_getitem.lookup (wpAny_getItem_list hl h0 hfit (by simpa using hx) (h _ hx)) hs
theorem item_refs {value slice : PySem.Expr} {l : Addr} {as : List Addr} {k : Int} {u : Tok} {Q : Value → Shared → Prop} (hl : s.heap.IsList l (refs as).toArray)
    (h0 : 0 ≤ k) (h1 : k < as.length) (hfit : k < 2 ^ 63) (h : ∀ a, as[k.toNat]? = some a → Q (.ref a) s)
    (hs : subscripted slice false (.ref l) (.int k u) = operate [.ref l, .int k u] (getItem (.ref l) (.int k u)) := by with_unfolding_all rfl) :
    wpAny (model prog w) A (subscriptTail value slice (.ref l) (.int k u)) Q E s :=
  item_vals hl h0 (by rw [List.length_map]; exact h1) hfit (fun v hv => by
    rw [List.getElem?_map] at hv
    obtain ⟨a, ha, rfl⟩ := Option.map_eq_some_iff.mp hv
    exact h a ha) hs
theorem item_ref {value slice : PySem.Expr} {l a : Addr} {as : List Addr} {k : Int} {u : Tok} {Q : Value → Shared → Prop} (hl : s.heap.IsList l (refs as).toArray)
    (h0 : 0 ≤ k) (hfit : k < 2 ^ 63) (hx : as[k.toNat]? = some a) (h : Q (.ref a) s)
    (hs : subscripted slice false (.ref l) (.int k u) = operate [.ref l, .int k u] (getItem (.ref l) (.int k u)) := by with_unfolding_all rfl) :
    wpAny (model prog w) A (subscriptTail value slice (.ref l) (.int k u)) Q E s :=
  tail_any hl.typeIs slot_list_getitem.lookup (wpAny_getItem_list hl h0 hfit (by simp [hx]) h) hs
theorem instAt_base {g h : Heap} {L x C dx : Addr} {m : Str → Option Value} {od : Obj} {sl : Array (Option Value)} (F : Fr g L h m) (h1 : g.get? x = some ⟨.ref C, some dx, .plain, sl⟩) (h2 : g.get? dx = some od) :
    InstAt h x ⟨.ref C, some dx, .plain, sl⟩ C (some od) := ⟨F.keep _ _ h1, rfl, rfl, F.keep _ _ h2⟩
theorem len_vals {l : Addr} {vs : List Value} {Q : Value → Shared → Prop} (hl : s.heap.IsList l vs.toArray) (hfit : vs.length < 2 ^ 60)
    (h : ∀ t k, Q (.int vs.length t) { s with toks := k }) : wpAny (model prog w) A (call (.builtin "len") [.ref l]) Q E s := by
  refine len_list hl (by rw [List.size_toArray]; omega) ?_
  rw [List.size_toArray]; exact h _ _
theorem len_refs {l : Addr} {as : List Addr} {Q : Value → Shared → Prop} (hl : s.heap.IsList l (refs as).toArray) (hfit : as.length < 2 ^ 60)
    (h : ∀ t k, Q (.int as.length t) { s with toks := k }) : wpAny (model prog w) A (call (.builtin "len") [.ref l]) Q E s := by
  refine len_vals hl (by simpa using hfit) fun t k => ?_
  rw [List.length_map]; exact h t k
end
end Mine

open PySem PySem.W PyProof.Rows PySem.Calls
set_option Elab.async false
set_option maxRecDepth 100000
namespace Mine
theorem below_AA {Γ : Ctx} {A : Around} {d u : Nat} (h : Γ.Below A) (hh : A.handled = none) (hd : A.depth ≤ d) (hu : A.units ≤ u) : Γ.Below (AA d u) :=
  ⟨h.1.trans hh, Nat.le_trans h.2.1 hd, (fun _ e => nomatch e), (fun _ e => nomatch e), Nat.le_trans h.2.2.2.2 hu⟩
theorem code_AA {M : Model} {A : Around} {c : Code} {R : Result → Shared → Prop} {s : Shared} (d u : Nat) (h : codeAny M (AA d u) c R s) (hh : A.handled = none) (hd : A.depth ≤ d) (hu : A.units ≤ u) : codeAny M A c R s :=
  fun Γ p hc hΓ => h Γ p hc (below_AA hΓ hh hd hu)

theorem enter_code {prog : Program} {w : World} {d u : Nat} {R : Result → Shared → Prop} {s : Shared} {K : Frag} {mg mb : Str → Option Value} {h₀ : Heap}
    {name qual : Str} {params : Arguments} {body : List Stmt} {scope : Scope} {dV kV doc pm cdv ct oc : Value} {an od : Option Addr} {osl : Array (Option Value)} {f : Addr} {args : List Value} {binds : List (Str × Value)}
    (X : Amb K mg mb h₀) (st : h₀.StaysIn s.heap) (W : List (Addr × Obj)) (hW : ∀ p ∈ W, s.heap.get? p.1 = some p.2 ∧ h₀.get? p.1 = none)
    (ho : K.lookup f = some ⟨oc, od, .func (fnOf name qual params body scope dV kV doc pm an cdv ct), osl⟩) (hcd : codeIn K cdv qual = true) (hroom : d < recursionLimit)
    (hbind : BindsTo s (fnOf name qual params body scope dV kV doc pm an cdv ct) ⟨args, []⟩ binds) (hloc : ∀ y ∈ binds, scope.names.lookup y.1 = some .local)
    (h : ∀ g L' h₁, Fr g L' h₁ (fun y => binds.reverse.lookup y) → News g L' h₁ W → K.In g → TopRead vw (looseW vw []) mg mb g →
      (∀ b o, s.heap.get? b = some o → b ∉ W.map (·.1) → g.get? b = some o) → (∀ b o, g.get? b = some o → s.heap.get? b = some o) →
      wpAny (model prog w) (AA (d + 1) (u + 3)) (execs body (envOf qual scope L' f cdv))
        (fun fl s' => R (.ok (.ret (match fl with | .ret v => v | _ => .none))) s') (fun _ _ => False)
        { s with heap := h₁, toks := s.toks + binds.length })
    (hco : scope.isCoroutine = false := by rfl) (hgen : scope.isGenerator = false := by rfl) (hk : scope.kind = .function := by rfl)
    (hcell : ∀ x ∈ scope.names, x.2 ≠ .cell := by decide) :
    codeAny (model prog w) (AA d u) (.call (.ref f) ⟨args, []⟩) R s := by
  have st₁ : ∀ b o, h₀.get? b = some o → (hideAll s.heap (W.map (·.1))).get? b = some o := fun b o e => hideAll_get _ (st b o e) fun hm => by
    obtain ⟨p, hp, rfl⟩ := List.mem_map.mp hm
    rw [(hW p hp).2] at e; cases e
  have X₁ := X.keeps st₁
  refine codeAny_call_def (fd := fnOf name qual params body scope dV kV doc pm an cdv ct) (body := body) (binds := binds) hroom ((X.k.keeps st) _ _ ho) rfl (X.t.nolimit.keeps st) (codeRec_of (X.k.keeps st) hcd) rfl hbind hcell hloc (fun h₁ hns hk₁ => ?_) hco hgen hk
  refine wpAny_mono (of_AA (d + 1) (u + 3) (h _ s.heap.objs.size h₁ ⟨hns, fun b o e => hk₁ b o (of_hideAll _ e), Nat.le_of_eq (hideAll_size _ _)⟩ (fun p hp => ?_) X₁.k X₁.t (fun b o e n => hideAll_get _ e n) (fun b o e => of_hideAll _ e)) rfl (Nat.le_refl _) (Nat.le_refl _)) (fun _ _ x => x) (fun _ _ x => x.elim)
  exact ⟨hk₁ _ _ (hW p hp).1, Nat.ne_of_lt (Heap.lt_size (hW p hp).1), hideAll_none _ (List.mem_map_of_mem hp)⟩

theorem make_new {w : World} {d u : Nat} {E Q : Value → Shared → Prop} {s : Shared} {K : Frag} {mg mb : Str → Option Value} {h₀ : Heap} {C fI : Addr} {vals : List Value}
    {name qual : Str} {params : Arguments} {body : List Stmt} {scope : Scope} {dV kV doc pm cdv ct oc : Value} {an od : Option Addr} {osl : Array (Option Value)} {binds : Addr → List (Str × Value)}
    (X : Amb K mg mb h₀) (st : h₀.StaysIn s.heap) (hm : makesIn K C = true) (hi : findIn K (.ref C) "__init__" = some (some (.ref fI))) (hf : isFn K (.ref fI) = true)
    (ho : K.lookup fI = some ⟨oc, od, .func (fnOf name qual params body scope dV kV doc pm an cdv ct), osl⟩) (hcd : codeIn K cdv qual = true) (hroom : d + 1 < recursionLimit)
    (hbind : ∀ x s', BindsTo s' (fnOf name qual params body scope dV kV doc pm an cdv ct) ⟨.ref x :: vals, []⟩ (binds x)) (hloc : ∀ x, ∀ y ∈ binds x, scope.names.lookup y.1 = some .local)
    (h : ∀ x dx g L' h₁ tk, @LT.lt Nat _ dx x → Fr g L' h₁ (fun y => (binds x).reverse.lookup y) → News g L' h₁ [(x, instObj C dx), (dx, dictOf [] 0)] → K.In g → TopRead vw (looseW vw []) mg mb g →
      s.heap.StaysIn g →
      wpAny (model PR w) (AA (d + 2) (u + 8)) (execs body (envOf qual scope L' fI cdv))
        (fun fl s' => (match fl with | .ret v => v | _ => .none) = .none ∧ Q (.ref x) s') (fun _ _ => False)
        { s with heap := h₁, toks := tk })
    (hco : scope.isCoroutine = false := by rfl) (hgen : scope.isGenerator = false := by rfl) (hk : scope.kind = .function := by rfl)
    (hcell : ∀ x ∈ scope.names, x.2 ≠ .cell := by decide) :
    wpAny (model PR w) (AA d u) (call (.ref C) vals) Q E s := by
  refine wpAny_call ?_
  obtain ⟨hh, gs, dr, t, os⟩ := s
  have Xk := X.k.keeps st
  refine make_core (makes_of Xk hm) (looks_findIn Xk hi) (fun self => bind_fn Xk self (beq_iff_eq.mp hf)) (.inl rfl) ?_
  have k1 : hh.StaysIn ((hh.push emptyDict).push (instObj C hh.objs.size)) := fun b o e => Heap.get?_push_of_some _ (Heap.get?_push_of_some _ e)
  have fresh : ∀ a, hh.objs.size ≤ a → hh.get? a = none := fun a ha => by
    cases e : hh.get? a with
    | none => rfl
    | some o' => exact absurd (Heap.lt_size e) (Nat.not_lt.mpr ha)
  have nx : ((hh.push emptyDict).push (instObj C hh.objs.size)).get? (hh.objs.size + 1) = some (instObj C hh.objs.size) := by
    have := Heap.get?_push_size (hh.push emptyDict) (o := instObj C hh.objs.size) rfl
    rwa [Heap.size_push] at this
  have nd : ((hh.push emptyDict).push (instObj C hh.objs.size)).get? hh.objs.size = some (dictOf [] 0) := Heap.get?_push_of_some _ (Heap.get?_push_size _ rfl)
  have hW : ∀ p ∈ [(hh.objs.size + 1, instObj C hh.objs.size), (hh.objs.size, dictOf [] 0)], ((hh.push emptyDict).push (instObj C hh.objs.size)).get? p.1 = some p.2 ∧ hh.get? p.1 = none := by
    intro p hp
    rcases List.mem_cons.mp hp with rfl | hp
    · exact ⟨nx, fresh _ (Nat.le_succ _)⟩
    · rw [List.mem_singleton.mp hp]; exact ⟨nd, fresh _ (Nat.le_refl _)⟩
  refine code_AA (d + 1) (u + 5) (enter_code (X.keeps st) k1 _ hW ho hcd hroom (hbind _ _) (hloc _) (fun g L' h₁ F N KX T up dn => ?_) hco hgen hk hcell) rfl (Nat.le_refl _) ?_
  · refine wpAny_mono (h (hh.objs.size + 1) hh.objs.size g L' h₁ _ (Nat.lt_succ_self _) F N KX T (fun b o e => up b o (k1 b o e) (by
      intro hb
      have lt := Heap.lt_size e
      simp only [List.map_cons, List.map_nil, List.mem_cons, List.not_mem_nil, or_false] at hb
      rcases hb with rfl | rfl
      · exact Nat.not_succ_le_self _ (Nat.le_of_succ_le lt)
      · exact Nat.lt_irrefl _ lt))) (fun fl s' hq => hq) fun _ _ x => x
  · show u + _ ≤ u + 5
    exact Nat.add_le_add_left (show 1 + 3 * 0 ≤ 5 by decide) u
end Mine

open PySem PySem.W PyProof.Rows PySem.Calls
set_option Elab.async false
set_option maxRecDepth 100000
namespace Mine
/-- holds the walk at a place -/
structure Held (p : Prop) : Prop where
  out : p
theorem unhold {p : Prop} (h : Held p) : p := h.out

theorem upd_app {d : Addr} {o o' : Obj} : ∀ {l r r' : List (Addr × Obj)}, (∀ p ∈ l, p.1 ≠ d) → Upd d o o' r r' → Upd d o o' (l ++ r) (l ++ r')
  | [], _, _, _, h => h
  | p :: l, _, _, h1, h => .tail (h1 p (.head _)) (upd_app (fun q hq => h1 q (.tail _ hq)) h)
theorem updF_app {d : Addr} {o : Obj} {g : Obj → List (Addr × Obj)} : ∀ {l r : List (Addr × Obj)}, (∀ p ∈ l, p.1 ≠ d) → UpdF d o r g → UpdF d o (l ++ r) (fun o' => l ++ g o')
  | [], _, _, h => h
  | p :: l, _, h1, h => .tail (h1 p (.head _)) (updF_app (fun q hq => h1 q (.tail _ hq)) h)
theorem off_mem {tl news : List (Addr × Obj)} (h : ∀ p ∈ tl, ∀ q ∈ news, p.1 ≠ q.1) {d : Addr} {o : Obj} (hm : (d, o) ∈ news) : ∀ p ∈ tl, p.1 ≠ d := fun p hp => h p hp _ hm
theorem allLt_append {d : Addr} : ∀ {l r : List (Addr × Obj)}, AllLt d (l ++ r) = (AllLt d l ∧ AllLt d r)
  | [], _ => by simp [AllLt]
  | p :: l, r => by simp [AllLt, allLt_append (l := l), and_assoc]

theorem news_sub {g h : Heap} {L : Addr} {l l' : List (Addr × Obj)} (N : News g L h l) (hs : ∀ p ∈ l', p ∈ l) : News g L h l' := fun p hp => N p (hs p hp)
def Keep (stored : List Str) (m₀ m : Str → Option Value) : Prop := ∃ u : Str → Option Value, m = fun z => if stored.contains z then u z else m₀ z
theorem Keep.refl (stored : List Str) (m₀ : Str → Option Value) : Keep stored m₀ m₀ := ⟨m₀, funext fun z => by split <;> rfl⟩
theorem Keep.of {stored : List Str} {m₀ m : Str → Option Value} (h : ∀ z, stored.contains z = false → m z = m₀ z) : Keep stored m₀ m := ⟨m, funext fun z => by
  cases e : stored.contains z with
  | true => simp
  | false => simp [h z e]⟩

def Keep1 (stored : List Str) (x : Str) (v : Value) (m₀ m : Str → Option Value) : Prop := ∃ u : Str → Option Value, m = fun z => if z = x then some v else if stored.contains z then u z else m₀ z
theorem Keep1.of {stored : List Str} {x : Str} {v : Value} {m₀ m : Str → Option Value} (hx : m x = some v) (h : ∀ z, stored.contains z = false → z ≠ x → m z = m₀ z) : Keep1 stored x v m₀ m := ⟨m, funext fun z => by
  by_cases e1 : z = x
  · rw [if_pos e1, e1, hx]
  · rw [if_neg e1]
    cases e : stored.contains z with
    | true => simp
    | false => simp [h z e e1]⟩
def Keep2 (stored : List Str) (x : Str) (v : Value) (y : Str) (v' : Value) (m₀ m : Str → Option Value) : Prop :=
  ∃ u : Str → Option Value, m = fun z => if z = x then some v else if z = y then some v' else if stored.contains z then u z else m₀ z
theorem Keep2.of {stored : List Str} {x y : Str} {v v' : Value} {m₀ m : Str → Option Value} (hx : m x = some v) (hy : m y = some v') (h : ∀ z, stored.contains z = false → z ≠ x → z ≠ y → m z = m₀ z) : Keep2 stored x v y v' m₀ m := ⟨m, funext fun z => by
  by_cases e1 : z = x
  · rw [if_pos e1, e1, hx]
  · rw [if_neg e1]
    by_cases e2 : z = y
    · rw [if_pos e2, e2, hy]
    · rw [if_neg e2]
      cases e : stored.contains z with
      | true => simp
      | false => simp [h z e e1 e2]⟩
theorem isList_on {g h : Heap} {L a : Addr} {news tl : List (Addr × Obj)} {vs : List Value} (N : News g L h news) (x : LstS (On tl) a vs) (hs : ∀ p ∈ tl, p ∈ news) : h.IsList a vs.toArray :=
  let ⟨o, n, m, c, d⟩ := x; ⟨o, (N _ (hs _ m)).1, c, n, d⟩
theorem add_K {prog : Program} {w : World} {A : Around} {E : Value → Shared → Prop} {s : Shared} {g : Heap} {L l b : Addr} {m : Str → Option Value} {news : List (Addr × Obj)} {vs ws : List Value} {Q : Value → Shared → Prop}
    (F : Fr g L s.heap m) (N : News g L s.heap news) (hl : s.heap.IsList l vs.toArray) (hb : s.heap.IsList b ws.toArray)
    (h : ∀ l' h', Fr g L h' m → News g L h' ((l', W.listOf (vs ++ ws).toArray 0) :: news) → (∀ p ∈ news, p.1 < l') → Q (.ref l') { s with heap := h' })
    (hsz : vs.length + ws.length ≤ sizeLine) : wpAny (model prog w) A (binaryOp .Add (.ref l) (.ref b)) Q E s :=
  add_lists F N hl hb (fun h' F' N' => h _ h' F' N' fun p hp => Heap.lt_size (N p hp).1) hsz
theorem len_ints {prog : Program} {w : World} {A : Around} {E : Value → Shared → Prop} {s : Shared} {l : Addr} {vs : List Value} {ns : List Int} {Q : Value → Shared → Prop} (hl : s.heap.IsList l vs.toArray) (hi : IntsAre vs ns) (hfit : ns.length < 2 ^ 60)
    (h : ∀ t k, Q (.int ns.length t) { s with toks := k }) : wpAny (model prog w) A (call (.builtin "len") [.ref l]) Q E s := by
  refine len_vals hl (by rw [hi.length]; exact hfit) fun t k => ?_
  rw [hi.length]; exact h t k
theorem refs_push (as : List Addr) (x : Addr) : (refs as).toArray.push (.ref x) = (refs (as ++ [x])).toArray := by simp
theorem off_app {tl tl' : List (Addr × Obj)} {d : Addr} (h : ∀ p ∈ tl, p.1 ≠ d) (h' : ∀ p ∈ tl', p.1 ≠ d) : ∀ p ∈ tl ++ tl', p.1 ≠ d := fun p hp => (List.mem_append.mp hp).elim (h p) (h' p)
theorem off_cons {tl : List (Addr × Obj)} {a d : Addr} {o : Obj} (h : a ≠ d) (h' : ∀ p ∈ tl, p.1 ≠ d) : ∀ p ∈ (a, o) :: tl, p.1 ≠ d := List.forall_mem_cons.mpr ⟨h, h'⟩

section
variable {prog : Program} {w : World} {A : Around} {E : Value → Shared → Prop} {s : Shared} {env : Env} {h₀ : Heap} {x : Str} {body : List Stmt} {Q : Flow → Shared → Prop}

def TurnPost (h₀ : Heap) (L I : Addr) (oI : Obj) (J : (Str → Option Value) → List (Addr × Obj) → Prop) (s₁ : Shared) (Q : Flow → Shared → Prop) (f : Flow) (s₂ : Shared) : Prop :=
  match f with
  | .ret v => Q (.ret v) s₂
  | .brk => Q .next s₂
  | _ => ∃ h' tk m' nx, s₂ = { s₁ with heap := h', toks := tk } ∧ Fr h₀ L h' m' ∧ News h₀ L h' ((I, oI) :: nx) ∧ (∀ p ∈ nx, p.1 ≠ I) ∧ J m' nx

theorem turn_of {L I : Addr} {oI : Obj} {J : (Str → Option Value) → List (Addr × Obj) → Prop} {s₁ s₃ : Shared} {own : List (Addr × Obj)} {f : Flow} (ho : (I, oI) ∈ own) (hs : ∀ p ∈ own, p = (I, oI))
    (h : TurnPost h₀ L I oI J s₁ Q f s₃) : LoopStepV h₀ L [I] own J s₁ (fun v s' => Q (.ret v) s') (fun s' => Q .next s') f s₃ := by
  have fin : (∃ h' tk m' nx, s₃ = { s₁ with heap := h', toks := tk } ∧ Fr h₀ L h' m' ∧ News h₀ L h' ((I, oI) :: nx) ∧ (∀ p ∈ nx, p.1 ≠ I) ∧ J m' nx) → LoopStepU h₀ L [I] own J s₁ .next s₃ := by
    rintro ⟨h', tk, m', nx, e, F', N', hn, hj⟩
    refine ⟨rfl, h', tk, m', nx, e, F', fun p hp => ?_, fun p hp hq => hn p hp (List.mem_singleton.mp hq), hj⟩
    rcases List.mem_append.mp hp with hp | hp
    · rw [hs p hp]; exact N' _ (.head _)
    · exact N' p (.tail _ hp)
  cases f with
  | ret v => exact .ret h
  | brk => exact .brk h
  | next => exact .next (fin h)
  | cont => exact .cont (fin h)

theorem iter_listV {l : Addr} {vs : List Value} {m₀ : Str → Option Value} {news : List (Addr × Obj)} (J : (Str → Option Value) → Nat → (Str → Option Value) → List (Addr × Obj) → Prop)
    (hh : A.handled = none) (hl : h₀.IsList l vs.toArray) (F : Fr h₀ env.locals s.heap m₀) (N : News h₀ env.locals s.heap news) (hj : J m₀ 0 m₀ news)
    (turn : ∀ i v m₁ nx h tk I oI, vs[i]? = some v → (∀ p ∈ nx, p.1 ≠ I) → J m₀ i m₁ nx → Fr h₀ env.locals h (fun y => if y = x then some v else m₁ y) → News h₀ env.locals h ((I, oI) :: nx) →
      wpAny (model prog w) A (execs body env) (TurnPost h₀ env.locals I oI (J m₀ (i + 1)) { s with heap := h, toks := tk } Q) E { s with heap := h, toks := tk })
    (done : ∀ m₁ nx h tk, J m₀ vs.length m₁ nx → Fr h₀ env.locals h m₁ → News h₀ env.locals h nx → Q .next { s with heap := h, toks := tk }) :
    wpAny (model prog w) A (pyIter (.ref l)) (fun it s₂ => LoopAtV prog w A h₀ env x body Q E it s₂) E s := by
  have hls : s.heap.IsList l vs.toArray := hl.at fun o e => F.keep l o e
  obtain ⟨ol, hol, _⟩ := id hl
  have hlt : l < h₀.objs.size := Heap.lt_size hol
  have hne : l ≠ s.heap.objs.size := Nat.ne_of_lt (Nat.lt_trans (Nat.lt_of_lt_of_le hlt F.above) F.ns.lt)
  refine wpAny_pyIter_list hls ?_
  have W := Walks.list (prog := prog) (w := w) hh s.heap.objs.size l hne vs.toArray
  refine ⟨_, _, _, vs.toArray.size, _, _, m₀, news, J m₀, rfl, W, ?_, ?_, ?_, ⟨⟨_, Heap.get?_push_size _ rfl, rfl, rfl⟩, hls.at fun o e => Heap.get?_push_of_some _ e⟩, F.push _, (fun p hp => ⟨Heap.get?_push_of_some _ (N p hp).1, (N p hp).2⟩), hj, ?_, ?_⟩
  · intro hm
    rcases List.mem_cons.mp hm with e | hm
    · exact absurd F.ns.lt (e ▸ Nat.lt_irrefl _)
    · exact absurd (Nat.lt_of_lt_of_le hlt F.above) ((List.mem_singleton.mp hm) ▸ Nat.lt_irrefl _)
  · intro b hb
    rw [List.mem_singleton.mp hb]
    exact next_is_new F
  · intro p hp hI
    exact absurd (Heap.lt_size (N p hp).1) ((List.mem_singleton.mp hI) ▸ Nat.lt_irrefl _)
  · rintro i v m₁ news₁ s₁ own ⟨hh', tk', rfl⟩ hin hP hJ hoff hown hget hmem hst F₁ N₁
    obtain ⟨⟨oi, hoi, _⟩, _⟩ := hst
    have hI : (s.heap.objs.size, oi) ∈ own := hmem _ (.head _) (next_is_new F) oi hoi
    have hs : ∀ p ∈ own, p = (s.heap.objs.size, oi) := fun p hp => by
      rcases List.mem_cons.mp (hown p hp) with h1 | h1
      · have h2 := hget p hp
        rw [h1] at h2
        rw [hoi] at h2
        obtain ⟨p1, p2⟩ := p
        simp only at h1 h2
        rw [h1, ← Option.some.inj h2]
      · have h2 := List.mem_singleton.mp h1
        have h3 := (N₁ p (List.mem_append_left _ hp)).2.2
        rw [h2, hol] at h3
        cases h3
    refine wpAny_mono (turn i v m₁ news₁ hh' tk' _ oi (by simpa using hP) (fun p hp e => hoff p hp (by rw [e]; exact .head _)) hJ F₁ (fun p hp => ?_)) (fun f s₂ h => turn_of hI hs h) fun _ _ e => e
    rcases List.mem_cons.mp hp with rfl | hp
    · exact N₁ _ (List.mem_append_left _ hI)
    · exact N₁ p (List.mem_append_right _ hp)
  · rintro h' tk m' news' F' N' _ hJ
    exact done m' news' h' tk (by simpa using hJ) F' N'

theorem iter_rangeV {r : Addr} {a b : Int} {t u v : Tok} {n : Nat} {m₀ : Str → Option Value} {news : List (Addr × Obj)} (J : (Str → Option Value) → Nat → (Str → Option Value) → List (Addr × Obj) → Prop)
    (hh : A.handled = none) (hr : IsRange s.heap r a b 1 t u v) (hsm : Builtin.Range.small a b 1 = true) (hn : Builtin.Range.rangeSize a b 1 = (n : Int)) (F : Fr h₀ env.locals s.heap m₀) (N : News h₀ env.locals s.heap news) (hj : J m₀ 0 m₀ news)
    (turn : ∀ (i : Nat) t m₁ nx h tk I oI, i < n → (∀ p ∈ nx, p.1 ≠ I) → J m₀ i m₁ nx → Fr h₀ env.locals h (fun y => if y = x then some (.int (a + i) t) else m₁ y) → News h₀ env.locals h ((I, oI) :: nx) →
      wpAny (model prog w) A (execs body env) (TurnPost h₀ env.locals I oI (J m₀ (i + 1)) { s with heap := h, toks := tk } Q) E { s with heap := h, toks := tk })
    (done : ∀ m₁ nx h tk, J m₀ n m₁ nx → Fr h₀ env.locals h m₁ → News h₀ env.locals h nx → Q .next { s with heap := h, toks := tk }) :
    wpAny (model prog w) A (pyIter (.ref r)) (fun it s₂ => LoopAtV prog w A h₀ env x body Q E it s₂) E s := by
  refine wpAny_pyIter_range hr hsm ?_
  have W := PyProof.Rows.LCg.range_walks (prog := prog) (w := w) (I := s.heap.objs.size) hh a n
  refine ⟨_, _, _, n, _, _, m₀, news, J m₀, rfl, W, ?_, ?_, ?_, ?_, F.push _, (fun p hp => ⟨Heap.get?_push_of_some _ (N p hp).1, (N p hp).2⟩), hj, ?_, ?_⟩
  · intro hm
    exact absurd F.ns.lt ((List.mem_singleton.mp hm) ▸ Nat.lt_irrefl _)
  · intro b hb
    rw [List.mem_singleton.mp hb]
    exact next_is_new F
  · intro p hp hI
    exact absurd (Heap.lt_size (N p hp).1) ((List.mem_singleton.mp hI) ▸ Nat.lt_irrefl _)
  · show IsRangeIter _ _ _ _ _
    rw [hn]; simpa using Heap.get?_push_size _ rfl
  · rintro i v m₁ news₁ s₁ own ⟨hh', tk', rfl⟩ hin ⟨ti, rfl⟩ hJ hoff hown hget hmem hst F₁ N₁
    have hoi : hh'.get? s.heap.objs.size = some _ := hst
    have hI := hmem _ (.head _) (next_is_new F) _ hoi
    have hs : ∀ p ∈ own, p = (s.heap.objs.size, _) := fun p hp => by
      have h1 := List.mem_singleton.mp (hown p hp)
      have h2 := hget p hp
      rw [h1] at h2
      rw [hoi] at h2
      obtain ⟨p1, p2⟩ := p
      simp only at h1 h2
      rw [h1, ← Option.some.inj h2]
    refine wpAny_mono (turn i ti m₁ news₁ hh' tk' _ _ hin (fun p hp e => hoff p hp (by rw [e]; exact .head _)) hJ F₁ (fun p hp => ?_)) (fun f s₂ h => turn_of hI hs h) fun _ _ e => e
    rcases List.mem_cons.mp hp with rfl | hp
    · exact N₁ _ (List.mem_append_left _ hI)
    · exact N₁ p (List.mem_append_right _ hp)
  · rintro h' tk m' news' F' N' _ hJ
    exact done m' news' h' tk hJ F' N'

theorem loop_range1 {k : Int} {t : Tok} {n : Nat} {m₀ : Str → Option Value} {news : List (Addr × Obj)} (J : (Str → Option Value) → Nat → (Str → Option Value) → List (Addr × Obj) → Prop)
    (hh : A.handled = none) (hk : k = (n : Int)) (hn : n < 2 ^ 60) (F : Fr h₀ env.locals s.heap m₀) (N : News h₀ env.locals s.heap news) (hj : J m₀ 0 m₀ news)
    (turn : ∀ (i : Nat) t m₁ nx h tk I oI, i < n → (∀ p ∈ nx, p.1 ≠ I) → J m₀ i m₁ nx → Fr h₀ env.locals h (fun y => if y = x then some (.int i t) else m₁ y) → News h₀ env.locals h ((I, oI) :: nx) →
      wpAny (model prog w) A (execs body env) (TurnPost h₀ env.locals I oI (J m₀ (i + 1)) { s with heap := h, toks := tk } Q) E { s with heap := h, toks := tk })
    (done : ∀ m₁ nx h tk, J m₀ n m₁ nx → Fr h₀ env.locals h m₁ → News h₀ env.locals h nx → Q .next { s with heap := h, toks := tk }) :
    wpAny (model prog w) A (call (.type "range") [.int k t]) (fun xv s₁ => wpAny (model prog w) A (pyIter xv) (fun it s₂ => LoopAtV prog w A h₀ env x body Q E it s₂) E s₁) E s := by
  subst hk
  refine call_range_1 ?_
  refine iter_rangeV J hh (IsRange.new _ _ _ _ _ _ _) (small_one (by decide) (by decide) (by omega) (by omega)) (by rw [rangeSize_one]; split <;> omega) (F.push _) (fun p hp => ⟨Heap.get?_push_of_some _ (N p hp).1, (N p hp).2⟩) hj (fun i t m₁ nx h tk I oI hi hn hJ F₁ N₁ => ?_) (fun m₁ nx h tk hJ F₁ N₁ => done m₁ nx h tk hJ F₁ N₁)
  rw [Int.zero_add] at F₁
  exact turn i t m₁ nx h tk I oI hi hn hJ F₁ N₁

theorem loop_range2 {a b : Int} {t u : Tok} {n : Nat} {m₀ : Str → Option Value} {news : List (Addr × Obj)} (J : (Str → Option Value) → Nat → (Str → Option Value) → List (Addr × Obj) → Prop)
    (hh : A.handled = none) (hb : (n : Int) = if a < b then b - a else 0) (ha0 : -1000000 < a) (ha1 : a < 1000000) (hb0 : -1000000 < b) (hb1 : b < 1000000) (F : Fr h₀ env.locals s.heap m₀) (N : News h₀ env.locals s.heap news) (hj : J m₀ 0 m₀ news)
    (turn : ∀ (i : Nat) t m₁ nx h tk I oI, i < n → (∀ p ∈ nx, p.1 ≠ I) → J m₀ i m₁ nx → Fr h₀ env.locals h (fun y => if y = x then some (.int (a + i) t) else m₁ y) → News h₀ env.locals h ((I, oI) :: nx) →
      wpAny (model prog w) A (execs body env) (TurnPost h₀ env.locals I oI (J m₀ (i + 1)) { s with heap := h, toks := tk } Q) E { s with heap := h, toks := tk })
    (done : ∀ m₁ nx h tk, J m₀ n m₁ nx → Fr h₀ env.locals h m₁ → News h₀ env.locals h nx → Q .next { s with heap := h, toks := tk }) :
    wpAny (model prog w) A (call (.type "range") [.int a t, .int b u]) (fun xv s₁ => wpAny (model prog w) A (pyIter xv) (fun it s₂ => LoopAtV prog w A h₀ env x body Q E it s₂) E s₁) E s := by
  refine call_range_2 ?_
  exact iter_rangeV J hh (IsRange.new _ _ _ _ _ _ _) (small_one (by omega) (by omega) (by omega) (by omega)) (by rw [rangeSize_one]; exact hb.symm) (F.push _) (fun p hp => ⟨Heap.get?_push_of_some _ (N p hp).1, (N p hp).2⟩) hj turn done
end
end Mine

open PySem PySem.W PyProof.Rows PySem.Calls
set_option Elab.async false
set_option maxRecDepth 100000
namespace Mine

/-- what a comprehension has built: for each item its value, with the objects made for it, apart from those made before -/
inductive Built {β : Type} (Rel : (Addr → Obj → Prop) → Value → β → Prop) : List (Addr × Obj) → List β → List Value → Prop
  | nil : Built Rel [] [] []
  | snoc {made ks ys tl k y} : Built Rel made ks ys → (∀ p ∈ tl, ∀ q ∈ made, p.1 ≠ q.1) → Rel (On tl) y k → Built Rel (tl ++ made) (ks ++ [k]) (ys ++ [y])
theorem Built.all2 {β : Type} {Rel : (Addr → Obj → Prop) → Value → β → Prop} (mono : ∀ {S S' : Addr → Obj → Prop} {y k}, (∀ a o, S a o → S' a o) → Rel S y k → Rel S' y k) {made ks ys} (b : Built Rel made ks ys) : All2 (Rel (On made)) ys ks := by
  induction b with
  | nil => exact .nil
  | snoc _ _ r ih => exact (ih.imp fun _ _ y => mono (fun _ _ h => List.mem_append_right _ h) y).snoc (mono (fun _ _ h => List.mem_append_left _ h) r)
theorem Built.length {β : Type} {Rel : (Addr → Obj → Prop) → Value → β → Prop} {made ks ys} (b : Built Rel made ks ys) : ys.length = ks.length := by
  induction b with
  | nil => rfl
  | snoc _ _ _ ih => simp [ih]
theorem take_filter_succ {β : Type} (p : β → Bool) (ks : List β) (j : Nat) (h : j < ks.length) : (ks.take (j + 1)).filter p = (ks.take j).filter p ++ (if p ks[j] then [ks[j]] else []) := by
  rw [List.take_succ_eq_append_getElem h, List.filter_append]
  congr 1
  by_cases e : p ks[j] <;> simp [e]

theorem isList_led {g h : Heap} {L a : Addr} {news : List (Addr × Obj)} {vs : List Value} {n : Nat} (N : News g L h news) (m : (a, W.listOf vs.toArray n) ∈ news) : h.IsList a vs.toArray := ⟨_, (N _ m).1, rfl, n, rfl⟩

theorem news_same {g h h' : Heap} {L a : Addr} {news : List (Addr × Obj)} (N : News g L h news) (hs : Heap.SameBut a h h') (hn : ∀ p ∈ news, p.1 ≠ a) : News g L h' news := fun p hp => ⟨(hs.2 _ (hn p hp)).trans (N p hp).1, (N p hp).2⟩

section
variable {β : Type} {prog : Program} {w : World} {A : Around} {env : Env} {g : Heap} {L : Addr} {m : Str → Option Value} {news : List (Addr × Obj)}

/-- the item's test in a comprehension -/
def TestOk (prog : Program) (w : World) (A : Around) (cenv : Env) (g : Heap) (L : Addr) (m : Str → Option Value) (news : List (Addr × Obj)) (x : Str) (ifs : List PySem.Expr) (RV : Value → β → Prop) (ks : List β) (p : β → Bool) : Prop :=
  ∀ (s : Shared) (v : Value) (k : β) (oC : Obj) (rest : List (Addr × Obj)) (mC : Str → Option Value), k ∈ ks → RV v k → Fr g L s.heap m → News g L s.heap ((cenv.locals, oC) :: rest) → (∀ q ∈ news, q ∈ rest) → (∀ h' : Heap, h'.get? cenv.locals = some oC → h'.Ns cenv.locals mC) → mC x = some v →
    wpAny (model prog w) A (forIn ifs true fun c r => if r = true then do let ok ← isTrue c cenv (eval c cenv); pure (ForInStep.yield ok) else pure (ForInStep.yield r))
      (fun ok s' => ok = p k ∧ ∃ h' tk, s' = { s with heap := h', toks := tk } ∧ Fr g L h' m ∧ News g L h' ((cenv.locals, oC) :: rest)) (fun _ _ => False) s

def EltOk (prog : Program) (w : World) (A : Around) (cenv : Env) (g : Heap) (L : Addr) (m : Str → Option Value) (news : List (Addr × Obj)) (x : Str) (elt : PySem.Expr) (RV : Value → β → Prop) (ks : List β) (p : β → Bool) (Rel : (Addr → Obj → Prop) → Value → β → Prop) : Prop :=
  ∀ (s : Shared) (v : Value) (k : β) (oC : Obj) (rest : List (Addr × Obj)) (mC : Str → Option Value), k ∈ ks → RV v k → p k = true → Fr g L s.heap m → News g L s.heap ((cenv.locals, oC) :: rest) → (∀ q ∈ news, q ∈ rest) → (∀ h' : Heap, h'.get? cenv.locals = some oC → h'.Ns cenv.locals mC) → mC x = some v →
    wpAny (model prog w) A (eval elt cenv)
      (fun y s' => ∃ h' tk tl, s' = { s with heap := h', toks := tk } ∧ Fr g L h' m ∧ News g L h' (tl ++ (cenv.locals, oC) :: rest) ∧ (∀ q ∈ tl, ∀ r ∈ (cenv.locals, oC) :: rest, q.1 ≠ r.1) ∧ Rel (On tl) y k) (fun _ _ => False) s

theorem TestOk.none {cenv : Env} {x : Str} {RV : Value → β → Prop} {ks : List β} : TestOk prog w A cenv g L m news x [] RV ks (fun _ => true) := fun s v k oC rest mC _ _ F N _ _ _ =>
  wpAny_tests_nil ⟨rfl, s.heap, s.toks, rfl, F, N⟩

theorem comp_loop {R : Result → Shared → Prop} {s : Shared} {elt iter : PySem.Expr} {x : Str} {px : Pos} {ifs : List PySem.Expr} {scope : Scope} {pos : Pos} {cenv : Env} {I D ax : Addr} {vs : List Value} {mC : Str → Option Value}
    {p : β → Bool} {RV : Value → β → Prop} {ks : List β} {Rel : (Addr → Obj → Prop) → Value → β → Prop} (hRV : All2 RV vs ks) (hh : A.handled = none) (hx : cenv.kindOf x = some .local)
    (hp : (cenv.scope.kind == .class || (cenv.scope.kind == .module && cenv.locals != cenv.globals)) = false) (hsz : vs.length ≤ sizeLine)
    (htest : TestOk prog w A cenv g L m news x ifs RV ks p) (helt : EltOk prog w A cenv g L m news x elt RV ks p Rel)
    (hsrc : ∀ h', Fr g L h' m → News g L h' news → h'.IsList ax vs.toArray)
    (F : Fr g L s.heap m) (N : News g L s.heap news) (hI : s.heap.IsListIter I ax 0) (hD : s.heap.PlainList D #[]) (hC : s.heap.Ns cenv.locals mC)
    (nID : I ≠ D) (nIC : I ≠ cenv.locals) (nDC : D ≠ cenv.locals) (lI : I ≠ L) (lD : D ≠ L) (lC : cenv.locals ≠ L) (gI : g.get? I = none) (gD : g.get? D = none) (gC : g.get? cenv.locals = none)
    (wI : ∀ q ∈ news, q.1 ≠ I) (wD : ∀ q ∈ news, q.1 ≠ D) (wC : ∀ q ∈ news, q.1 ≠ cenv.locals)
    (hR : ∀ h' tk mC' ys made n, h'.Ns cenv.locals mC' → Fr g L h' m → News g L h' ((D, W.listOf ys.toArray n) :: (made ++ news)) → (∀ q ∈ made, q.1 ≠ cenv.locals) → (∀ q ∈ made, q.1 ≠ D) → (∀ q ∈ made, ∀ r ∈ news, q.1 ≠ r.1) → Built Rel made (ks.filter p) ys →
      R (.ok .next) { s with heap := h', toks := tk }) :
    codeAny (model prog w) A (.compLoop (.ListComp elt [⟨.Name x px, iter, ifs, 0⟩] scope pos) 0 (.ref I) (.ref D) cenv) R s := by
  refine codeAny_compLoop_tests
    (fun k s' => ∃ h' tk mC' ys made j, s' = { s with heap := h', toks := tk } ∧ h'.IsListIter I ax j ∧ h'.PlainList D (List.toArray ys) ∧ h'.Ns cenv.locals mC' ∧ Fr g L h' m ∧ News g L h' (made ++ news) ∧
      (∀ q ∈ made, q.1 ≠ I) ∧ (∀ q ∈ made, q.1 ≠ D) ∧ (∀ q ∈ made, q.1 ≠ cenv.locals) ∧ (∀ q ∈ made, ∀ r ∈ news, q.1 ≠ r.1) ∧ Built Rel made ((ks.take j).filter p) ys ∧ j ≤ vs.length ∧ k = vs.length + 1 - j) ?_ (vs.length + 1)
    ⟨s.heap, s.toks, mC, [], [], 0, rfl, hI, hD, hC, F, N, (fun _ h => nomatch h), (fun _ h => nomatch h), (fun _ h => nomatch h), (fun _ h => nomatch h), (by simpa using Built.nil), Nat.zero_le _, rfl⟩
  rintro k s' ⟨h, tk, mC', ys, made, j, rfl, hI', hD', hC', F', N', mI, mD, mC₁, mN, hB, hj, rfl⟩
  have oI' : ∀ q ∈ made ++ news, q.1 ≠ I := off_app mI wI
  have oD' : ∀ q ∈ made ++ news, q.1 ≠ D := off_app mD wD
  have oC' : ∀ q ∈ made ++ news, q.1 ≠ cenv.locals := off_app mC₁ wC
  have hl : h.IsList ax vs.toArray := hsrc h F' (news_sub N' fun q hq => List.mem_append_right _ hq)
  by_cases hlt : j < vs.length
  · have hv : vs[j]? = some vs[j] := List.getElem?_eq_getElem hlt
    refine wpAny_pyNext_list_item hI' hl (x := vs[j]) (by simp [hlt]) fun h₁ hI₁ hs₁ => ?_
    have F₁ := F'.change hs₁ lI gI
    have N₁ := news_same N' hs₁ oI'
    have hD₁ := hD'.extBut hs₁.extBut (Ne.symm nID)
    have hC₁ := hC'.sameBut hs₁ (Ne.symm nIC)
    refine wpAny_assign_Name (wpAny_storeName_local hx hC₁ (fun h₂ hC₂ hs₂ => ?_) hp)
    have F₂ := F₁.change hs₂ lC gC
    have N₂ := news_same N₁ hs₂ oC'
    have hD₂ := hD₁.extBut hs₂.extBut nDC
    have hI₂ := hI₁.extBut hs₂.extBut nIC
    obtain ⟨nD, eD⟩ := id hD₂
    obtain ⟨oC, esC, epC, eC, dC, kC, fC⟩ := id hC₂
    obtain ⟨oI, eI, cI, dI⟩ := id hI₂
    have nsC : ∀ h' : Heap, h'.get? cenv.locals = some oC → h'.Ns cenv.locals _ := fun h' e => ⟨oC, esC, epC, e, dC, kC, fC⟩
    have NN : News g L h₂ ((cenv.locals, oC) :: (I, oI) :: (D, { cls := .type "list", data := .seq (List.toArray ys) nD }) :: (made ++ news)) := by
      intro q hq
      rcases List.mem_cons.mp hq with rfl | hq
      · exact ⟨eC, lC, gC⟩
      · rcases List.mem_cons.mp hq with rfl | hq
        · exact ⟨eI, lI, gI⟩
        · rcases List.mem_cons.mp hq with rfl | hq
          · exact ⟨eD, lD, gD⟩
          · exact N₂ q hq
    have sub : ∀ q ∈ news, q ∈ (I, oI) :: (D, { cls := .type "list", data := .seq (List.toArray ys) nD }) :: (made ++ news) := fun q hq => .tail _ (.tail _ (List.mem_append_right _ hq))
    have hvl := hRV.length
    have hltk : j < ks.length := by omega
    have hm : ks[j] ∈ ks := List.getElem_mem hltk
    obtain ⟨v₀, hv₀, hrv⟩ := hRV.get (List.getElem?_eq_getElem hltk)
    rw [hv] at hv₀
    obtain rfl := Option.some.inj hv₀
    refine wpAny_mono (htest _ vs[j] ks[j] oC _ _ hm hrv F₂ NN sub nsC (by simp)) (fun ok s₃ h₃ => ?_) fun _ _ e => e.elim
    obtain ⟨rfl, h₃, tk₃, rfl, F₃, N₃⟩ := h₃
    have tk1 := take_filter_succ p ks j hltk
    cases hpv : p ks[j] with
    | false =>
      simp only [Bool.false_eq_true, if_false]
      refine ⟨vs.length + 1 - (j + 1), by omega, h₃, tk₃, _, ys, made, j + 1, rfl, ⟨oI, (N₃ _ (.tail _ (.head _))).1, cI, dI⟩, ⟨nD, (N₃ _ (.tail _ (.tail _ (.head _)))).1⟩, nsC h₃ (N₃ _ (.head _)).1, F₃, news_sub N₃ (fun q hq => .tail _ (.tail _ (.tail _ hq))), mI, mD, mC₁, mN, ?_, hlt, rfl⟩
      rw [tk1, hpv]; simpa using hB
    | true =>
      simp only [if_true]
      refine wpAny_mono (helt _ vs[j] ks[j] oC _ _ hm hrv hpv F₃ N₃ sub nsC (by simp)) (fun y s₄ h₄ => ?_) fun _ _ e => e.elim
      obtain ⟨h₄, tk₄, tl, rfl, F₄, N₄, off, hr⟩ := h₄
      have hbl := hB.length
      have hfl : ((ks.take j).filter p).length ≤ ks.length := Nat.le_trans (List.length_filter_le _ _) (by rw [List.length_take]; omega)
      have hD₄ : h₄.PlainList D (List.toArray ys) := ⟨nD, (N₄ _ (List.mem_append_right _ (.tail _ (.tail _ (.head _))))).1⟩
      refine wpAny_list_append_plain (hsz := by rw [List.size_toArray]; omega) hD₄ fun h₅ hD₅ hs₅ => ?_
      have oD₄ : ∀ q ∈ tl, q.1 ≠ D := off_mem off (o := _) (.tail _ (.tail _ (.head _)))
      have oI₄ : ∀ q ∈ tl, q.1 ≠ I := off_mem off (o := _) (.tail _ (.head _))
      have oC₄ : ∀ q ∈ tl, q.1 ≠ cenv.locals := off_mem off (o := _) (.head _)
      have hI₄ : h₄.IsListIter I ax (j + 1) := ⟨oI, (N₄ _ (List.mem_append_right _ (.tail _ (.head _)))).1, cI, dI⟩
      have N₄' : News g L h₄ ((tl ++ made) ++ news) := news_sub N₄ fun q hq => by
        rcases List.mem_append.mp hq with hq | hq
        · rcases List.mem_append.mp hq with hq | hq
          · exact List.mem_append_left _ hq
          · exact List.mem_append_right _ (.tail _ (.tail _ (.tail _ (List.mem_append_left _ hq))))
        · exact List.mem_append_right _ (.tail _ (.tail _ (.tail _ (List.mem_append_right _ hq))))
      refine ⟨vs.length + 1 - (j + 1), by omega, h₅, tk₄, _, ys ++ [y], tl ++ made, j + 1, rfl, hI₄.extBut hs₅.extBut nID, by simpa using hD₅, (nsC h₄ (N₄ _ (List.mem_append_right _ (.head _))).1).sameBut hs₅ (Ne.symm nDC), F₄.change hs₅ lD gD,
        news_same N₄' hs₅ (off_app (off_app oD₄ mD) wD), off_app oI₄ mI, off_app oD₄ mD, off_app oC₄ mC₁, ?_, ?_, hlt, rfl⟩
      · intro q hq r hr'
        rcases List.mem_append.mp hq with hq | hq
        · exact off q hq r (.tail _ (.tail _ (.tail _ (List.mem_append_right _ hr'))))
        · exact mN q hq r hr'
      · rw [tk1, hpv]
        exact .snoc hB (fun q hq r hr' => off q hq r (.tail _ (.tail _ (.tail _ (List.mem_append_left _ hr'))))) hr
  · have hjn : j = vs.length := by omega
    refine wpAny_pyNext_list_end hh hI' hl (by simp [hjn]) fun h₁ he₁ => ?_
    obtain ⟨nD, eD⟩ := hD'
    refine hR h₁ tk mC' ys made nD (hC'.extBut he₁ (Ne.symm nIC)) ⟨F'.ns.extBut he₁ (Ne.symm lI), fun b o e => he₁ b o (fun q => by rw [q, gI] at e; cases e) (F'.keep b o e), F'.above⟩ ?_ mC₁ mD mN (by rw [hjn, hRV.length, List.take_length] at hB; exact hB)
    intro q hq
    rcases List.mem_cons.mp hq with rfl | hq
    · exact ⟨he₁ _ _ (Ne.symm nID) eD, lD, gD⟩
    · exact ⟨he₁ _ _ (oI' q hq) (N' q hq).1, (N' q hq).2⟩

/-- the block of a comprehension over a list: from its iterable to its end -/
theorem comp_block {E : Value → Shared → Prop} {s₁ : Shared} {elt iter : PySem.Expr} {x : Str} {px : Pos} {ifs : List PySem.Expr} {scope : Scope} {cl : List (Str × Addr)} {pos : Pos} {ax : Addr} {vs : List Value}
    {p : β → Bool} {RV : Value → β → Prop} {ks : List β} {Rel : (Addr → Obj → Prop) → Value → β → Prop} (hRV : All2 RV vs ks) {RR : Value → Addr → Result → Shared → Prop} (hh : A.handled = none)
    (hcell : ∀ y ∈ scope.names, y.2 ≠ .cell) (hkind : scope.kind = .function) (hx : scope.names.lookup x = some .local) (hsz : vs.length ≤ sizeLine)
    (F : Fr g L s₁.heap m) (N : News g L s₁.heap news) (hsrc : ∀ h', Fr g L h' m → News g L h' news → h'.IsList ax vs.toArray)
    (htest : ∀ C, TestOk prog w A (compEnvC scope cl C env) g L m news x ifs RV ks p) (helt : ∀ C, EltOk prog w A (compEnvC scope cl C env) g L m news x elt RV ks p Rel)
    (hR : ∀ D C h' tk mC' ys made n, h'.Ns C mC' → Fr g L h' m → News g L h' ((D, W.listOf ys.toArray n) :: (made ++ news)) → (∀ q ∈ (D, W.listOf ys.toArray n) :: (made ++ news), q.1 ≠ C) → C ≠ L → g.get? C = none → (∀ q ∈ made ++ news, q.1 ≠ D) → (∀ q ∈ made, ∀ r ∈ news, q.1 ≠ r.1) → Built Rel made (ks.filter p) ys →
      RR (.ref D) C (.ok .next) { s₁ with heap := h', toks := tk }) :
    wpAny (model prog w) A (pyIter (.ref ax)) (fun it s₂ => wpAny (model prog w) A (newList []) (fun acc s₃ =>
      wpAny (model prog w) A (newFunctionEnv scope env.globals cl [] env.qual none .none (some env)) (fun cenv s₄ =>
        codeAny (model prog w) A (.compStart (.ListComp elt [⟨.Name x px, iter, ifs, 0⟩] scope pos) 0 it acc { cenv with scope := relabel scope env }) (RR acc cenv.locals) s₄) E s₃) E s₂) E s₁ := by
  have hl := hsrc _ F N
  refine wpAny_pyIter_list hl ?_
  refine wpAny_newObj_type (wpAny_newFunctionEnv hcell (by intro y hy; simp at hy) (fun h₁ hns₁ hsb₁ => ?_) hkind)
  dsimp only at hns₁ hsb₁ ⊢
  generalize hH1 : s₁.heap.push { cls := .type "list_iterator", data := .fields #[.ref ax, .int 0 0] } = H1 at hns₁ hsb₁ ⊢
  generalize hH2 : H1.push { cls := .type "list", dict := none, data := .seq ([] : List Value).toArray } = H2 at hns₁ hsb₁ ⊢
  have z1 : H1.objs.size = s₁.heap.objs.size + 1 := by rw [← hH1, Heap.size_push]
  have z2 : H2.objs.size = s₁.heap.objs.size + 2 := by rw [← hH2, Heap.size_push, z1]
  have fresh : ∀ a, s₁.heap.objs.size ≤ a → s₁.heap.get? a = none := fun a ha => by
    cases e : s₁.heap.get? a with
    | none => rfl
    | some o' => exact absurd (Heap.lt_size e) (Nat.not_lt.mpr ha)
  have old : ∀ b o, s₁.heap.get? b = some o → h₁.get? b = some o := fun b o e => hsb₁.extBut b o (Nat.ne_of_lt (by rw [z2]; exact Nat.lt_of_lt_of_le (Heap.lt_size e) (Nat.le_add_right _ _))) (Heap.get?_push_of_some _ (hH2 ▸ Heap.get?_push_of_some _ (hH1 ▸ Heap.get?_push_of_some _ e)))
  have F₁ : Fr g L h₁ m := F.keeps old
  have N₁ : News g L h₁ news := fun q hq => ⟨old _ _ (N q hq).1, (N q hq).2⟩
  have gI : ∀ a, s₁.heap.objs.size ≤ a → g.get? a = none := fun a ha => by
    cases e : g.get? a with
    | none => rfl
    | some o => have := F.keep _ _ e; rw [fresh a ha] at this; cases this
  have lI : ∀ a, s₁.heap.objs.size ≤ a → a ≠ L := fun a ha e => absurd F.ns.lt (by rw [← e]; exact Nat.not_lt.mpr ha)
  have wI : ∀ a, s₁.heap.objs.size ≤ a → ∀ q ∈ news, q.1 ≠ a := fun a ha q hq e => absurd (Heap.lt_size (N q hq).1) (by rw [e]; exact Nat.not_lt.mpr ha)
  have n1 : s₁.heap.objs.size ≠ H1.objs.size := by rw [z1]; exact Nat.ne_of_lt (Nat.lt_succ_self _)
  have n2 : s₁.heap.objs.size ≠ H2.objs.size := by rw [z2]; exact Nat.ne_of_lt (Nat.lt_add_of_pos_right (by decide))
  have n3 : H1.objs.size ≠ H2.objs.size := by rw [z1, z2]; exact Nat.ne_of_lt (Nat.lt_succ_self _)
  have s1 : s₁.heap.objs.size ≤ H1.objs.size := by rw [z1]; exact Nat.le_succ _
  have s2 : s₁.heap.objs.size ≤ H2.objs.size := by rw [z2]; exact Nat.le_add_right _ _
  have hI : h₁.IsListIter s₁.heap.objs.size ax 0 := ⟨_, hsb₁.extBut _ _ n2 (Heap.get?_push_of_some _ (hH2 ▸ Heap.get?_push_of_some _ (hH1 ▸ Heap.get?_push_size _ rfl))), rfl, rfl⟩
  have hD : h₁.PlainList H1.objs.size #[] := ⟨0, hsb₁.extBut _ _ n3 (Heap.get?_push_of_some _ (hH2 ▸ Heap.get?_push_size _ rfl))⟩
  refine codeAny_compStart_list ?loop (wpAny_pyIter_listiter hI ?loop)
  exact comp_loop (cenv := compEnvC scope cl H2.objs.size env) hRV hh (lookup_relabel_local hx) (by simp [compEnvC, relabel, hkind]) hsz (htest _) (helt _) hsrc F₁ N₁ hI hD hns₁ n1 n2 n3 (lI _ (Nat.le_refl _)) (lI _ s1) (lI _ s2) (gI _ (Nat.le_refl _)) (gI _ s1) (gI _ s2) (wI _ (Nat.le_refl _)) (wI _ s1) (wI _ s2)
    fun h' tk mC' ys made n hC' F' N' mC mD mN hB => hR _ _ h' tk mC' ys made n hC' F' N' (off_cons n3 (off_app mC (wI _ s2))) (lI _ s2) (gI _ s2) (off_app mD (wI _ s1)) mN hB

/-- what is asked once the iterable of a comprehension is known -/
def CompAt (prog : Program) (w : World) (A : Around) (env : Env) (g : Heap) (L : Addr) (m : Str → Option Value) (elt : PySem.Expr) (x : Str) (ifs : List PySem.Expr) (scope : Scope) (cl : List (Str × Addr)) (upd : (Str → Option Value) → Value → Str → Option Value) (Q : Value → Shared → Prop) (xv : Value) (s₁ : Shared) : Prop :=
  ∃ (β : Type) (ax : Addr) (vs : List Value) (news : List (Addr × Obj)) (RV : Value → β → Prop) (ks : List β) (p : β → Bool) (Rel : (Addr → Obj → Prop) → Value → β → Prop), xv = .ref ax ∧ All2 RV vs ks ∧ vs.length ≤ sizeLine ∧ Fr g L s₁.heap m ∧ News g L s₁.heap news ∧ (∀ h', Fr g L h' m → News g L h' news → h'.IsList ax vs.toArray) ∧
    (∀ C, TestOk prog w A (compEnvC scope cl C env) g L m news x ifs RV ks p) ∧ (∀ C, EltOk prog w A (compEnvC scope cl C env) g L m news x elt RV ks p Rel) ∧
    ∀ D h' tk ys made n, Fr g L h' (upd m (.ref D)) → News g L h' ((D, W.listOf ys.toArray n) :: (made ++ news)) → (∀ q ∈ made ++ news, q.1 ≠ D) → (∀ q ∈ made, ∀ r ∈ news, q.1 ≠ r.1) → Built Rel made (ks.filter p) ys → Q (.ref D) { s₁ with heap := h', toks := tk }

theorem comp_eval {E : Value → Shared → Prop} {Q : Value → Shared → Prop} {s : Shared} {elt iter : PySem.Expr} {x : Str} {px : Pos} {ifs : List PySem.Expr} {scope : Scope} {cl : List (Str × Addr)} {pos : Pos} {g : Heap} {L : Addr} {m : Str → Option Value} (_F : Fr g L s.heap m)
    (hh : A.handled = none) (hclos : closureFor scope env = pure cl) (hcell : ∀ y ∈ scope.names, y.2 ≠ .cell) (hkind : scope.kind = .function)
    (hnames : ∀ y ∈ scope.names, y.2 = .local → scope.names.lookup y.1 = some .local) (hx : scope.names.lookup x = some .local)
    (h : wpAny (model prog w) A (eval iter env) (CompAt prog w A env g L m elt x ifs scope cl (fun m _ => m) Q) E s)
    (hs : ∀ x, foldedSetIterable iter env x = pure x := by intro _; rfl) :
    wpAny (model prog w) A (eval (.ListComp elt [⟨.Name x px, iter, ifs, 0⟩] scope pos) env) Q E s := by
  rw [eval_ListComp]
  refine wpAny_comprehension_free (use := none) rfl hs hclos hkind hnames (wpAny_mono h (fun xv s₁ h₁ => ?_) fun _ _ e => e)
  obtain ⟨β, ax, vs, news, RV, ks, p, Rel, rfl, hRV, hsz, F, N, hsrc, ht, he, hQ⟩ := h₁
  refine comp_block (RR := fun acc C => compPost (model prog w) A E none Q acc C) hRV hh hcell hkind hx hsz F N hsrc ht he fun D C h' tk mC' ys made n hC F' N' oC lC gC oD mN hB => ?_
  exact ⟨mC', hC, fun h'' hs'' => hQ D h'' tk ys made n (F'.change hs'' lC gC) (news_same N' hs'' oC) oD mN hB⟩

theorem comp_assign {E : Value → Shared → Prop} {Q : Flow → Shared → Prop} {s : Shared} {elt iter : PySem.Expr} {x y : Str} {px py : Pos} {ifs : List PySem.Expr} {scope : Scope} {cl : List (Str × Addr)} {pos spos : Pos} {g : Heap} {m : Str → Option Value} (_F : Fr g env.locals s.heap m)
    (hsw : swapsWith (.ListComp elt [⟨.Name x px, iter, ifs, 0⟩] scope pos) (some (.Name y py)) spos.line env = pure true)
    (hh : A.handled = none) (hclos : closureFor scope env = pure cl) (hcell : ∀ z ∈ scope.names, z.2 ≠ .cell) (hkind : scope.kind = .function)
    (hnames : ∀ z ∈ scope.names, z.2 = .local → scope.names.lookup z.1 = some .local) (hx : scope.names.lookup x = some .local)
    (hy : env.kindOf y = some .local) (hp : (env.scope.kind == .class || (env.scope.kind == .module && env.locals != env.globals)) = false)
    (h : wpAny (model prog w) A (eval iter env) (CompAt prog w A env g env.locals m elt x ifs scope cl (fun m v z => if z = y then some v else m z) (fun _ s' => Q .next s')) E s)
    (hs : ∀ x, foldedSetIterable iter env x = pure x := by intro _; rfl) :
    wpAny (model prog w) A (exec (.Assign [.Name y py] (.ListComp elt [⟨.Name x px, iter, ifs, 0⟩] scope pos) spos) env) Q E s := by
  rw [exec_Assign_Name_used _ _ _ _ hsw]
  refine wpAny_bind (wpAny_standAt (wpAny_bind ?_))
  show wpAny _ A (do let _ ← comprehension (.ListComp elt [⟨.Name x px, iter, ifs, 0⟩] scope pos) scope env _ (newList []) false (eval iter env) (some (assign (.Name y py) env))) _ _ s
  refine wpAny_bind (wpAny_mono (wpAny_comprehension_free (use := some (assign (.Name y py) env)) (Q := fun _ s' => Q .next s') rfl hs hclos hkind hnames
    (wpAny_mono h (fun xv s₁ h₁ => ?_) fun _ _ e => e)) (fun _ s' hq => wpAny_pure (wpAny_pure hq)) fun _ _ e => e)
  obtain ⟨β, ax, vs, news, RV, ks, p, Rel, rfl, hRV, hsz, F, N, hsrc, ht, he, hQ⟩ := h₁
  refine comp_block (RR := fun acc C => compPost (model prog w) A E (some (assign (.Name y py) env)) (fun _ s' => Q .next s') acc C) hRV hh hcell hkind hx hsz F N hsrc ht he fun D C h' tk mC' ys made n hC F' N' oC lC gC oD mN hB => ?_
  show wpAny _ A (assign (.Name y py) env (.ref D)) _ _ _
  refine wpAny_assign_Name (wpAny_storeName_local hy F'.ns (fun h₂ hn₂ hs₂ => ?_) hp)
  refine ⟨mC', hC.sameBut hs₂ lC, fun h₃ hs₃ => ?_⟩
  exact hQ D h₃ _ ys made n ((F'.set hn₂ hs₂).change hs₃ lC gC) (news_same (N'.set hs₂) hs₃ oC) oD mN hB
end

theorem CompAt.base {β : Type} {prog : Program} {w : World} {A : Around} {env : Env} {g : Heap} {L : Addr} {m : Str → Option Value} {news : List (Addr × Obj)} {elt : PySem.Expr} {x : Str} {scope : Scope} {cl : List (Str × Addr)} {upd : (Str → Option Value) → Value → Str → Option Value} {Q : Value → Shared → Prop} {s₁ : Shared} {ax : Addr} {vs : List Value} {RV : Value → β → Prop} {ks : List β}
    (Rel : (Addr → Obj → Prop) → Value → β → Prop) (hl : g.IsList ax vs.toArray) (hRV : All2 RV vs ks) (F : Fr g L s₁.heap m) (N : News g L s₁.heap news) (hsz : vs.length ≤ sizeLine)
    (helt : ∀ C, EltOk prog w A (compEnvC scope cl C env) g L m news x elt RV ks (fun _ => true) Rel)
    (fin : ∀ D h' tk ys made n, Fr g L h' (upd m (.ref D)) → News g L h' ((D, W.listOf ys.toArray n) :: (made ++ news)) → (∀ q ∈ made ++ news, q.1 ≠ D) → (∀ q ∈ made, ∀ r ∈ news, q.1 ≠ r.1) → Built Rel made ks ys → Q (.ref D) { s₁ with heap := h', toks := tk }) :
    CompAt prog w A env g L m elt x [] scope cl upd Q (.ref ax) s₁ :=
  ⟨β, ax, vs, news, RV, ks, fun _ => true, Rel, rfl, hRV, hsz, F, N, fun h' F' _ => stays_list F'.keep hl, fun _ => TestOk.none, helt, fun D h' tk ys made n F' N' oD mN hB => fin D h' tk ys made n F' N' oD mN (by rwa [List.filter_eq_self.mpr (fun _ _ => rfl)] at hB)⟩
theorem CompAt.on {β : Type} {prog : Program} {w : World} {A : Around} {env : Env} {g : Heap} {L : Addr} {m : Str → Option Value} {news : List (Addr × Obj)} {elt : PySem.Expr} {x : Str} {scope : Scope} {cl : List (Str × Addr)} {upd : (Str → Option Value) → Value → Str → Option Value} {Q : Value → Shared → Prop} {s₁ : Shared} {ax : Addr} {vs : List Value} {RV : Value → β → Prop} {ks : List β} {ifs : List PySem.Expr} {p : β → Bool}
    (Rel : (Addr → Obj → Prop) → Value → β → Prop) (hl : LstS (On news) ax vs) (hRV : All2 RV vs ks) (F : Fr g L s₁.heap m) (N : News g L s₁.heap news) (hsz : vs.length ≤ sizeLine)
    (htest : ∀ C, TestOk prog w A (compEnvC scope cl C env) g L m news x ifs RV ks p) (helt : ∀ C, EltOk prog w A (compEnvC scope cl C env) g L m news x elt RV ks p Rel)
    (fin : ∀ D h' tk ys made n, Fr g L h' (upd m (.ref D)) → News g L h' ((D, W.listOf ys.toArray n) :: (made ++ news)) → (∀ q ∈ made ++ news, q.1 ≠ D) → (∀ q ∈ made, ∀ r ∈ news, q.1 ≠ r.1) → Built Rel made (ks.filter p) ys → Q (.ref D) { s₁ with heap := h', toks := tk }) :
    CompAt prog w A env g L m elt x ifs scope cl upd Q (.ref ax) s₁ :=
  ⟨β, ax, vs, news, RV, ks, p, Rel, rfl, hRV, hsz, F, N, fun h' _ N' => isList_on N' hl fun _ h => h, htest, helt, fin⟩
theorem CompAt.on0 {β : Type} {prog : Program} {w : World} {A : Around} {env : Env} {g : Heap} {L : Addr} {m : Str → Option Value} {news : List (Addr × Obj)} {elt : PySem.Expr} {x : Str} {scope : Scope} {cl : List (Str × Addr)} {upd : (Str → Option Value) → Value → Str → Option Value} {Q : Value → Shared → Prop} {s₁ : Shared} {ax : Addr} {vs : List Value} {RV : Value → β → Prop} {ks : List β}
    (Rel : (Addr → Obj → Prop) → Value → β → Prop) (hl : LstS (On news) ax vs) (hRV : All2 RV vs ks) (F : Fr g L s₁.heap m) (N : News g L s₁.heap news) (hsz : vs.length ≤ sizeLine)
    (helt : ∀ C, EltOk prog w A (compEnvC scope cl C env) g L m news x elt RV ks (fun _ => true) Rel)
    (fin : ∀ D h' tk ys made n, Fr g L h' (upd m (.ref D)) → News g L h' ((D, W.listOf ys.toArray n) :: (made ++ news)) → (∀ q ∈ made ++ news, q.1 ≠ D) → (∀ q ∈ made, ∀ r ∈ news, q.1 ≠ r.1) → Built Rel made ks ys → Q (.ref D) { s₁ with heap := h', toks := tk }) :
    CompAt prog w A env g L m elt x [] scope cl upd Q (.ref ax) s₁ :=
  CompAt.on Rel hl hRV F N hsz (fun _ => TestOk.none) helt fun D h' tk ys made n F' N' oD mN hB => fin D h' tk ys made n F' N' oD mN (by rwa [List.filter_eq_self.mpr (fun _ _ => rfl)] at hB)

/-- how the items stand for data -/
def IntV (v : Value) (k : Int) : Prop := ∃ t, v = .int k t
def RefV {β : Type} (R : Addr → β → Prop) (v : Value) (k : β) : Prop := ∃ a, v = .ref a ∧ R a k
theorem intV_of {vs : List Value} {ns : List Int} (h : IntsAre vs ns) : All2 IntV vs ns := by
  induction h with
  | nil => exact .nil
  | cons n t _ ih => exact .cons ⟨t, rfl⟩ ih
theorem refV_of {β : Type} {R : Addr → β → Prop} {as : List Addr} {ks : List β} (h : All2 R as ks) : All2 (RefV R) (refs as) ks := by
  induction h with
  | nil => exact .nil
  | cons x _ ih => exact .cons ⟨_, rfl, x⟩ ih
/-- what an element gives: an int of it, an object of it -/
def MapI {β : Type} (f : β → Int) (_S : Addr → Obj → Prop) (y : Value) (k : β) : Prop := ∃ t, y = .int (f k) t
def RefR {β : Type} (P : (Addr → Obj → Prop) → Addr → β → Prop) (S : Addr → Obj → Prop) (y : Value) (k : β) : Prop := ∃ a, y = .ref a ∧ P S a k
theorem Built.ints {β : Type} {f : β → Int} {made : List (Addr × Obj)} {ks : List β} {ys : List Value} (b : Built (MapI f) made ks ys) : IntsAre ys (ks.map f) := by
  induction b with
  | nil => exact .nil
  | snoc _ _ r ih => obtain ⟨t, rfl⟩ := r; rw [List.map_append]; exact ih.append (.cons _ _ .nil)
theorem Built.refs {β : Type} {P : (Addr → Obj → Prop) → Addr → β → Prop} {made : List (Addr × Obj)} {ks : List β} {ys : List Value} (b : Built (RefR P) made ks ys)
    (mono : ∀ {S S' : Addr → Obj → Prop} {a k}, (∀ a o, S a o → S' a o) → P S a k → P S' a k) : ∃ xs, ys = Mine.refs xs ∧ All2 (P (On made)) xs ks := by
  induction b with
  | nil => exact ⟨[], rfl, .nil⟩
  | snoc _ _ r ih =>
    obtain ⟨xs, rfl, h⟩ := ih
    obtain ⟨a, rfl, ha⟩ := r
    exact ⟨xs ++ [a], by simp, (h.imp fun _ _ y => mono (fun _ _ h => List.mem_append_right _ h) y).snoc (mono (fun _ _ h => List.mem_append_left _ h) ha)⟩
theorem All2.mapR {α β γ : Type} {R : α → γ → Prop} {f : β → γ} {as : List α} {bs : List β} (h : All2 (fun a b => R a (f b)) as bs) : All2 R as (bs.map f) := by
  induction h with
  | nil => exact .nil
  | cons x _ ih => exact .cons x ih

section
variable {M : Model} {A : Around} {E : Value → Shared → Prop} {s : Shared} {scope : Scope} {cl : List (Str × Addr)} {C L c : Addr} {env : Env} {g : Heap} {news : List (Addr × Obj)} {x : Str} {pos : Pos} {v : Value} {Q : Value → Shared → Prop} {o : Obj}
theorem name_compL {mC : Str → Option Value} (N : News g L s.heap news) (hm : (C, o) ∈ news) (nsC : ∀ h' : Heap, h'.get? C = some o → h'.Ns C mC) (hv : mC x = some v) (h : Q v s)
    (hk : (compEnvC scope cl C env).scope.kind = .function) (hx : (compEnvC scope cl C env).kindOf x = some .local) (hd : (x == ("__debug__" : Str)) = false := by decide) :
    wpAny M A (eval (.Name x pos) (compEnvC scope cl C env)) Q E s := wpAny_Name (wpAny_loadName_local hk hx (nsC _ (N _ hm).1) hv h) hd
theorem name_compC (N : News g L s.heap news) (hc : cl.lookup x = some c) (hm : (c, o) ∈ news) (hd : o.data = .cell (some v)) (h : Q v s)
    (hk : (compEnvC scope cl C env).scope.kind = .function) (hx : (compEnvC scope cl C env).kindOf x = some .cell) (hb : (x == ("__debug__" : Str)) = false := by decide) :
    wpAny M A (eval (.Name x pos) (compEnvC scope cl C env)) Q E s := wpAny_Name (wpAny_loadName_cell (env := compEnvC scope cl C env) hk hx hc ⟨o, N.get hm, hd⟩ h) hb
theorem nameG_B {K : Frag} {mg mb : Str → Option Value} {p : Program} {loose : List Str} {m : Str → Option Value} {en : Env} (F : Fr g L s.heap m) (X : K.In g) (T : TopRead p loose mg mb g)
    (e : nsIn K mainGlobals x = some none) (hv : bootBuiltins x = some v) (hn : x ≠ "__name__") (h : Q v s) (hg : en.globals = mainGlobals) (hbn : en.builtins = builtinsNs) (hk : en.scope.kind = .function) (hx : en.kindOf x = some .globalImplicit) (hd : (x == ("__debug__" : Str)) = false) :
    wpAny M A (eval (.Name x pos) en) Q E s :=
  Name_function_global hk hx (loadGlobal_builtin (env := en) (by rw [hg]; exact T.g.keeps F.keep) (mg_none_of X T.g e) (by rw [hbn]; exact T.b.keeps F.keep) ((T.builtins x hn).trans hv) h) hd
end
end Mine

set_option maxHeartbeats 8000000
set_option compiler.extract_closed false
namespace Mine
local macro_rules | `(tactic| walk_at "MY_ENTER") => `(tactic| (
  (case ho => k_is); (case hcd => k_is); (case room => decide); (case hb => exact BindsTo.of_eq rfl); (case c5 => decide); (case hl => exact locs rfl); (case c2 => exact rfl); (case c3 => exact rfl); (case c4 => exact rfl)))
local macro_rules | `(tactic| walk_at "MY_NEW") => `(tactic| (
  (case hm => k_is); (case hi => k_is); (case hf => k_is); (case ho => k_is); (case hcd => k_is); (case room => decide); (case hb => exact fun x s' => BindsTo.of_eq rfl); (case c5 => decide); (case hl => exact fun x => locs rfl); (case c2 => exact rfl); (case c3 => exact rfl); (case c4 => exact rfl)))
local macro_rules | `(tactic| walk_at "binaryOp FloorDiv int int") => `(tactic| (k_here; (with_reducible refine floordiv_int ?kbe ?_ (Or.inl (PyProof.noPylong_small ?kbp))); (case kbe => omega); (case kbp => omega)))
local macro_rules | `(tactic| walk_at "exec For Name Call cons nil") => `(tactic| refine unhold ?_)
local macro_rules | `(tactic| walk_at "call type:range") => `(tactic| refine unhold ?_)
local macro_rules | `(tactic| k_upd) => `(tactic| (refine' upd_app ?a ?b; (case a => first | assumption | exact off_mem (by assumption) (by k_mem)); (case b => k_upd)))
local macro_rules | `(tactic| k_updF) => `(tactic| (refine' updF_app ?a ?b; (case a => first | assumption | exact off_mem (by assumption) (by k_mem)); (case b => k_updF)))
local macro_rules | `(tactic| k_all) => `(tactic| first | assumption | exact off_mem (by assumption) (by k_mem))
local macro_rules | `(tactic| k_mem) => `(tactic| (refine' List.mem_append_right _ ?_; k_mem))
local macro_rules | `(tactic| k_mem) => `(tactic| assumption)
local macro_rules | `(tactic| size_fits) => `(tactic| (simp only [List.size_toArray, List.length_map, sizeLine_eq]; omega))
local macro_rules | `(tactic| k_lt $h:ident) => `(tactic| (replace $h := allLt_of $h; simp only [AllLt, allLt_append, and_true] at $h:ident))
local macro_rules | `(tactic| k_inst) => `(tactic| (refine' instAt_base ?F ?h1 ?h2; (case F => k_asm); (case h1 => assumption); (case h2 => assumption)))
local macro_rules | `(tactic| walk_at "call builtin:len") => `(tactic| (k_here; (with_reducible show wpAny _ _ (call (Value.builtin "len") [Value.ref _]) _ _ _); (with_unfolding_all refine' len_refs ?k1 ?k2 ?_; (case k1 => is_list); (case k2 => omega); k_whole); intro t' k'))
local macro_rules | `(tactic| walk_at "subscriptTail") => `(tactic| (k_here; (with_reducible show wpAny _ _ (subscriptTail _ _ (Value.ref _) (Value.int _ _)) _ _ _); (with_unfolding_all refine' item_ref ?k1 ?k2 ?k3 ?k4 ?_ ?k6; (case k1 => is_list); (case k4 => assumption); (case k2 => omega); (case k3 => omega); (case k6 => with_unfolding_all rfl); k_whole)))
local macro_rules | `(tactic| walk_at "MY_SUB") => `(tactic| (intro p9 h9; first | exact h9 | (repeat (first | exact h9 | exact List.mem_append_left _ h9 | refine List.mem_cons_of_mem _ ?_ | refine List.mem_append_right _ ?_))))
local macro_rules | `(tactic| is_list) => `(tactic| first | (refine' isList_led ?iN ?iM; (case iN => k_asm); (case iM => k_mem)) | fail)
local macro_rules | `(tactic| is_list) => `(tactic| first | (refine' isList_on ?iN ?iL ?iS; (case iN => k_asm); (case iL => assumption); (case iS => walk_at "MY_SUB")) | fail)
local macro_rules | `(tactic| walk_at "binaryOp Add ref ref") => `(tactic| (k_here; (with_reducible show wpAny _ _ (binaryOp _ (Value.ref _) (Value.ref _)) _ _ _); (with_unfolding_all refine' add_K ?F ?N ?a ?b ?_ ?z; (case F => k_asm); (case N => k_asm); (case a => is_list); (case b => is_list); (case z => (simp only [List.length_map, List.length_cons, List.length_nil, List.length_append, sizeLine_eq]; omega)); k_whole); intro l' h' F' N' l1; (try k_lt l1); (try k_sweep)))
local macro_rules | `(tactic| walk_at "call builtin:len") => `(tactic| (k_here; (with_reducible show wpAny _ _ (call (Value.builtin "len") [Value.ref _]) _ _ _); (with_unfolding_all refine' len_ints ?k1 ?k3 ?k2 ?_; (case k1 => is_list); (case k3 => l_ints); (case k2 => omega); k_whole); intro t' k'))
local macro_rules | `(tactic| walk_at "eval Name") => `(tactic| (k_here; k_inBlock; k_dflt (first
  | (refine' name_compL ?N ?m ?ns ?v ?_ ?a ?b; (case N => k_asm); (case m => k_mem); (case ns => assumption); (case a => rfl); (case b => rfl); (case v => first | assumption | rfl); k_whole)
  | (refine' name_compC ?N ?c ?m ?d ?_ ?a ?b; (case a => rfl); (case b => rfl); (case c => rfl); (case N => k_asm); (case m => k_mem); (case d => k_asm); k_whole)
  | (refine' nameG_K ?k1 ?k2 ?k3 ?k4 ?_ ?a ?b ?c ?d; (case a => rfl); (case b => rfl); (case c => rfl); (case d => decide); (case k1 => k_asm); (case k2 => k_asm); (case k3 => k_asm); (case k4 => k_is); k_whole)
  | (refine' nameG_B ?k1 ?k2 ?k3 ?k4 ?k5 ?k6 ?_ ?a ?e ?b ?c ?d; (case a => rfl); (case e => rfl); (case b => rfl); (case c => rfl); (case d => decide); (case k1 => k_asm); (case k2 => k_asm); (case k3 => k_asm); (case k4 => k_is); (case k5 => boot_fast); (case k6 => decide); k_whole))))
local macro_rules | `(tactic| walk_at "eval ListComp") => `(tactic| refine unhold ?_)
local macro_rules | `(tactic| walk_at "exec Assign cons ListComp") => `(tactic| refine unhold ?_)
local macro_rules | `(tactic| walk_at "MY_COMP") => `(tactic| ((try (case sw => with_unfolding_all rfl)); (case clo => with_unfolding_all rfl); (case cell => decide); (case kind => with_unfolding_all rfl); (case nm => decide); (case x => with_unfolding_all rfl); (try (case y => with_unfolding_all rfl)); (try (case p => with_unfolding_all rfl))))
local macro_rules | `(tactic| walk_at "MY_CELLS") => `(tactic| (
  (case ho => k_is); (case hcd => k_is); (case room => decide); (case hb => exact BindsTo.of_eq rfl); (case hkd => exact rfl); (case hnd => decide +kernel); (case c2 => exact rfl); (case c3 => exact rfl); (case c4 => exact rfl)))
local macro_rules | `(tactic| walk_at "exec For Name Attribute cons nil") => `(tactic| refine unhold ?_)
local macro_rules | `(tactic| walk_at "exec For Name Name cons nil") => `(tactic| refine unhold ?_)
local macro_rules | `(tactic| walk_at "exec For Name BinOp cons nil") => `(tactic| refine unhold ?_)
local macro_rules | `(tactic| walk_at "testChain") => `(tactic| (k_here; k_dflt (refine test_link ?_)))
local macro_rules | `(tactic| walk_at "MY_NEWC") => `(tactic| (
  (case hm => k_is); (case hi => k_is); (case hf => k_is); (case ho => k_is); (case hcd => k_is); (case room => decide); (case hb => exact fun x s' => BindsTo.of_eq rfl); (case hkd => exact fun x => rfl); (case hnd => decide +kernel); (case c2 => exact rfl); (case c3 => exact rfl); (case c4 => exact rfl)))

section
/-- the two ints of a source -/
def SrcO (o : Obj) : Prop := ∃ x y t1 t2 c, o = W.listOf #[.int x t1, .int y t2] c ∧ 0 ≤ x ∧ 0 ≤ y ∧ y < 2147483648

theorem pool_spec {w : World} {E : Value → Shared → Prop} {Q : Value → Shared → Prop} {s : Shared} {mg mb : Str → Option Value} {h₀ : Heap} {sc : Addr} {vs : List Value} {ns : List Int} {k : Int} {t : Tok}
    (X : Amb (hd.heap_1 w.params) mg mb h₀) (st : h₀.StaysIn s.heap)
    (hl : s.heap.IsList sc vs.toArray) (hi : IntsAre vs ns) (hk : 0 ≤ k) (hk2 : k ≤ 100) (hlen : ns.length ≤ 63)
    (hQ : ∀ a o h' tk', s.heap.StaysIn h' → Led s.heap h' [(a, o)] → SrcO o → Q (.ref a) { s with heap := h', toks := tk' }) :
    wpAny (model PR w) (AA 600 600) (call (.ref 332) [.ref sc, .int k t]) Q E s := by
  k_dflt (refine' enter_def (W := []) X st (fun _ h => nomatch h) ?ho ?hcd ?room ?hb ?hl ?_ ?c2 ?c3 ?c4 ?c5)
  walk_at "MY_ENTER"
  intro g L h₁ F N KX T up dn
  have up' : s.heap.StaysIn g := fun b o e => up b o e (by simp)
  have hlg : g.IsList sc vs.toArray := stays_list up' hl
  clear hl up dn X st
  k_unmd
  k_fold
  k_steps
  all_goals (
    rename Fr _ _ _ _ => F9
    rename News _ _ _ _ => N9
    refine hQ _ _ _ _ (stays_of F9 up') (led_of N9 up') ⟨_, _, _, _, _, rfl, ?_, ?_, ?_⟩)
  all_goals (first
    | exact Int.mul_nonneg (by split <;> omega) (by split <;> omega)
    | exact fmod_lo _ (by omega)
    | exact Int.lt_trans (fmod_hi _ (by omega)) (by omega)
    | fail "pool")

theorem take_spec {w : World} {E : Value → Shared → Prop} {Q : Value → Shared → Prop} {s : Shared} {mg mb : Str → Option Value} {h₀ : Heap} {src : Addr} {o : Obj} {top : Int} {t3 : Tok}
    (X : Amb (hd.heap_1 w.params) mg mb h₀) (st : h₀.StaysIn s.heap)
    (hs : s.heap.get? src = some o) (h0 : h₀.get? src = none) (ho : SrcO o) (htop : 0 < top) (htop2 : top < 100)
    (hQ : ∀ r t o' h' tk', (∀ b o, b ≠ src → s.heap.get? b = some o → h'.get? b = some o) → h'.get? src = some o' → SrcO o' → 0 ≤ r → r < top → Q (.int r t) { s with heap := h', toks := tk' }) :
    wpAny (model PR w) (AA 600 600) (call (.ref 339) [.ref src, .int top t3]) Q E s := by
  obtain ⟨x, y, t1, t2, c, rfl, hx, hy, hy2⟩ := ho
  k_dflt (refine' enter_def (W := [(src, W.listOf #[.int x t1, .int y t2] c)]) X st (fun p hp => by rw [List.mem_singleton.mp hp]; exact ⟨hs, h0⟩) ?ho ?hcd ?room ?hb ?hl ?_ ?c2 ?c3 ?c4 ?c5)
  walk_at "MY_ENTER"
  intro g L h₁ F N KX T up dn
  clear X st
  k_unmd
  k_fold
  k_steps
  all_goals (try dsimp only)
  rotate_left
  · have b1 : (0 : Int) ≤ (y * 39373 + 7).fmod 2147483647 := fmod_lo _ (by omega)
    have b2 : (y * 39373 + 7).fmod 2147483647 < 2147483647 := fmod_hi _ (by omega)
    refine mul_int ?_ (IntMulOk.of_left (intBits_le_64 (k := (y * 39373 + 7).fmod 2147483647) (by omega) (by omega)))
    k_steps
    all_goals (try dsimp only)
    rename Fr _ _ _ _ => F9
    rename News _ _ _ _ => N9
    exact hQ _ _ _ _ _ (fun b o hb e => F9.keep b o (up b o e (by simpa using hb))) (N9 _ (.head _)).1 ⟨_, _, _, _, _, rfl, hx, b1, Int.lt_trans b2 (by decide)⟩ (fmod_lo _ htop) (fmod_hi _ htop)
  · rename Fr _ _ _ _ => F9
    rename News _ _ _ _ => N9
    exact hQ _ _ _ _ _ (fun b o hb e => F9.keep b o (up b o e (by simpa using hb))) (N9 _ (.head _)).1 ⟨_, _, _, _, _, rfl, Int.fdiv_nonneg hx (by omega), hy, hy2⟩ (fmod_lo _ htop) (fmod_hi _ htop)

/-- a contract for a def that turns one object (the source) and nothing else that stood -/
theorem take_use {w : World} {A : Around} {E Q : Value → Shared → Prop} {s : Shared} {mg mb : Str → Option Value} {g : Heap} {L : Addr} {m : Str → Option Value} {news : List (Addr × Obj)} {ln : Obj → List (Addr × Obj)} {src : Addr} {o : Obj} {top : Int} {t3 : Tok}
    (KX : (hd.heap_1 w.params).In g) (T : TR mg mb g) (F : Fr g L s.heap m) (N : News g L s.heap news) (U : UpdF src o news ln) (ho : SrcO o) (htop : 0 < top) (htop2 : top < 100)
    (k : ∀ r t o' h' tk', Fr g L h' m → News g L h' (ln o') → SrcO o' → 0 ≤ r → r < top → Q (.int r t) { s with heap := h', toks := tk' })
    (hA : A.handled = none := by rfl) (hd : A.depth ≤ 600 := by decide) (hu : A.units ≤ 600 := by decide) :
    wpAny (model PR w) A (call (.ref 339) [.ref src, .int top t3]) Q E s := by
  obtain ⟨pre, post, rfl, hg, a, b⟩ := U.split
  have z := N (src, o) (List.mem_append_right _ (.head _))
  refine of_AA 600 600 (take_spec ⟨KX, T⟩ F.keep z.1 z.2.2 ho htop htop2 fun r t o' h' tk' off hsrc ho' h0 h1 => ?_) hA hd hu
  refine k r t o' h' tk' ⟨F.ns.at' fun o e => off L o (fun q => z.2.1 q.symm) e, fun b o e => off b o (fun q => by rw [q, z.2.2] at e; cases e) (F.keep b o e), F.above⟩ ?_ ho' h0 h1
  rw [hg]
  intro p hp
  rcases List.mem_append.mp hp with hp | hp
  · have y := N p (List.mem_append_left _ hp); exact ⟨off _ _ (a p hp) y.1, y.2⟩
  · rcases List.mem_cons.mp hp with rfl | hp
    · exact ⟨hsrc, z.2⟩
    · have y := N p (List.mem_append_right _ (.tail _ hp)); exact ⟨off _ _ (b p hp) y.1, y.2⟩

theorem one_spec {w : World} {E : Value → Shared → Prop} {Q : Value → Shared → Prop} {s : Shared} {mg mb : Str → Option Value} {h₀ : Heap} {src th : Addr} {o : Obj} {vs : List Value}
    (X : Amb (hd.heap_1 w.params) mg mb h₀) (st : h₀.StaysIn s.heap)
    (hs : s.heap.get? src = some o) (h0 : h₀.get? src = none) (ho : SrcO o) (hne : th ≠ src) (hth : s.heap.IsList th vs.toArray) (hn : 0 < vs.length) (hn2 : vs.length < 100)
    (hQ : ∀ v o' h' tk', v ∈ vs → (∀ b o, b ≠ src → s.heap.get? b = some o → h'.get? b = some o) → h'.get? src = some o' → SrcO o' → Q v { s with heap := h', toks := tk' }) :
    wpAny (model PR w) (AA 590 590) (call (.ref 346) [.ref src, .ref th]) Q E s := by
  k_dflt (refine' enter_def (W := [(src, o)]) X st (fun p hp => by rw [List.mem_singleton.mp hp]; exact ⟨hs, h0⟩) ?ho ?hcd ?room ?hb ?hl ?_ ?c2 ?c3 ?c4 ?c5)
  walk_at "MY_ENTER"
  intro g L h₁ F N KX T up dn
  have hlg : g.IsList th vs.toArray := let ⟨o, a, b⟩ := hth; ⟨o, up _ _ a (by simpa using hne), b⟩
  clear X st
  k_unmd
  k_fold
  k_steps
  refine len_vals (by is_list) (by omega) fun t1 tk1 => ?_
  k_steps
  try dsimp only
  refine take_use KX T (by k_asm) (by k_asm) (by exact .head (fun _ h => nomatch h)) ho (by omega) (by omega) fun r t o' h' tk' F' N' ho' h0 h1 => ?_
  refine item_vals (by is_list) h0 h1 (by omega) fun v hv => ?_
  k_steps
  exact hQ v _ _ _ (List.mem_of_getElem? hv) (fun b o hb e => F'.keep b o (up b o e (by simpa using hb))) (N' _ (.head _)).1 ho'

theorem one_use {w : World} {A : Around} {E Q : Value → Shared → Prop} {s : Shared} {mg mb : Str → Option Value} {g : Heap} {L : Addr} {m : Str → Option Value} {news : List (Addr × Obj)} {ln : Obj → List (Addr × Obj)} {src th : Addr} {o : Obj} {vs : List Value}
    (KX : (hd.heap_1 w.params).In g) (T : TR mg mb g) (F : Fr g L s.heap m) (N : News g L s.heap news) (U : UpdF src o news ln) (ho : SrcO o) (hne : th ≠ src) (hth : s.heap.IsList th vs.toArray) (hn : 0 < vs.length) (hn2 : vs.length < 100)
    (k : ∀ v o' h' tk', v ∈ vs → Fr g L h' m → News g L h' (ln o') → SrcO o' → Q v { s with heap := h', toks := tk' })
    (hA : A.handled = none := by rfl) (hd : A.depth ≤ 590 := by decide) (hu : A.units ≤ 590 := by decide) :
    wpAny (model PR w) A (call (.ref 346) [.ref src, .ref th]) Q E s := by
  obtain ⟨pre, post, rfl, hg, a, b⟩ := U.split
  have z := N (src, o) (List.mem_append_right _ (.head _))
  refine of_AA 590 590 (one_spec ⟨KX, T⟩ F.keep z.1 z.2.2 ho hne hth hn hn2 fun v o' h' tk' hv off hsrc ho' => ?_) hA hd hu
  refine k v o' h' tk' hv ⟨F.ns.at' fun o e => off L o (fun q => z.2.1 q.symm) e, fun b o e => off b o (fun q => by rw [q, z.2.2] at e; cases e) (F.keep b o e), F.above⟩ ?_ ho'
  rw [hg]
  intro p hp
  rcases List.mem_append.mp hp with hp | hp
  · have y := N p (List.mem_append_left _ hp); exact ⟨off _ _ (a p hp) y.1, y.2⟩
  · rcases List.mem_cons.mp hp with rfl | hp
    · exact ⟨hsrc, z.2⟩
    · have y := N p (List.mem_append_right _ (.tail _ hp)); exact ⟨off _ _ (b p hp) y.1, y.2⟩
end

section
theorem comp_new {w : World} {v1 v4 : Value} {b c : Int} {t2 t3 : Tok} :
    Con 580 580 w 255 [v1, .int b t2, .int c t3, v4] (fun _ => True) (fun S r => ∃ x, r = .ref x ∧ CompS S x (b, c)) := by
  intro E Q s mg mb h₀ X st _ hQ
  k_dflt (refine' make_new X st ?hm ?hi ?hf ?ho ?hcd ?room ?hb ?hl ?_ ?c2 ?c3 ?c4 ?c5)
  walk_at "MY_NEW"
  intro x dx g L h₁ tk lt F N KX T up
  clear X st
  k_unmd
  k_fold
  k_steps
  all_goals (try dsimp only)
  rename Fr _ _ _ _ => F9
  rename News _ _ _ _ => N9
  exact hQ _ _ _ _ (stays_of F9 up) (led_of N9 up) ⟨x, rfl, dx, _, _, _, _, _, _, _, _, _, _, _, _, .head _, .tail _ (.head _)⟩

theorem frame_new {w : World} {v2 v3 v4 : Value} {kind : String} {cs : Addr} {n : Int} {t1 t6 : Tok} :
    Con 580 580 w 321 [.str (Str.ofString kind) t1, v2, v3, v4, .ref cs, .int n t6] (fun _ => True) (fun S r => ∃ x, r = .ref x ∧ FrameI S x kind cs n) := by
  intro E Q s mg mb h₀ X st _ hQ
  k_dflt (refine' make_new X st ?hm ?hi ?hf ?ho ?hcd ?room ?hb ?hl ?_ ?c2 ?c3 ?c4 ?c5)
  walk_at "MY_NEW"
  intro x dx g L h₁ tk lt F N KX T up
  clear X st
  k_unmd
  k_fold
  k_steps
  all_goals (try dsimp only)
  rename Fr _ _ _ _ => F9
  rename News _ _ _ _ => N9
  exact hQ _ _ _ _ (stays_of F9 up) (led_of N9 up) ⟨x, rfl, dx, _, _, _, _, _, _, _, _, _, _, _, _, _, _, _, _, _, .head _, .tail _ (.head _)⟩

theorem scan_new {w : World} {pl dc ac : Addr} {a b c d : Int} {t4 t5 t6 t7 : Tok} :
    Con 580 580 w 84 [.ref pl, .ref dc, .ref ac, .int a t4, .int b t5, .int c t6, .int d t7] (fun _ => True) (fun S r => ∃ x, r = .ref x ∧ ScanI S x pl dc ac a b c d) := by
  intro E Q s mg mb h₀ X st _ hQ
  k_dflt (refine' make_new X st ?hm ?hi ?hf ?ho ?hcd ?room ?hb ?hl ?_ ?c2 ?c3 ?c4 ?c5)
  walk_at "MY_NEW"
  intro x dx g L h₁ tk lt F N KX T up
  clear X st
  k_unmd
  k_fold
  k_steps
  all_goals (try dsimp only)
  rename Fr _ _ _ _ => F9
  rename News _ _ _ _ => N9
  exact hQ _ _ _ _ (stays_of F9 up) (led_of N9 up) ⟨x, rfl, dx, _, _, _, _, _, _, _, _, _, _, _, _, _, _, _, _, _, _, .head _, .tail _ (.head _)⟩
end

section
def FrJ (src lr : Addr) (m₀ : Str → Option Value) (i : Nat) (m : Str → Option Value) (nx : List (Addr × Obj)) : Prop :=
  ∃ so c as comps tl, nx = (lr, W.listOf (refs as).toArray c) :: (src, so) :: tl ∧ SrcO so ∧ (∀ p ∈ tl, p.1 ≠ lr) ∧ (∀ p ∈ tl, p.1 ≠ src) ∧ lr ≠ src ∧
    All2 (CompS (On tl)) as comps ∧ comps.length = i ∧ (∀ c ∈ comps, 1 ≤ c.1 ∧ c.1 ≤ 4 ∧ 1 ≤ c.2 ∧ c.2 ≤ 2) ∧ Keep ["place", "across", "down"] m₀ m

def FrameOk (f : FrameD) : Prop := 1 ≤ f.comps.length ∧ f.comps.length ≤ 6 ∧ (∀ c ∈ f.comps, 1 ≤ c.1 ∧ c.1 ≤ 4 ∧ 1 ≤ c.2 ∧ c.2 ≤ 2) ∧ 1 ≤ f.n ∧ f.n ≤ 8

theorem frame_spec {w : World} {E : Value → Shared → Prop} {Q : Value → Shared → Prop} {s : Shared} {mg mb : Str → Option Value} {h₀ : Heap} {src : Addr} {o : Obj} {kind : String} {t : Tok}
    (X : Amb (hd.heap_1 w.params) mg mb h₀) (st : h₀.StaysIn s.heap)
    (hs : s.heap.get? src = some o) (h0 : h₀.get? src = none) (ho : SrcO o)
    (hQ : ∀ x f h' tk' tl, (∀ b o, b ≠ src → s.heap.get? b = some o → h'.get? b = some o) → Led s.heap h' tl → FrameS (On tl) x f → f.kind = kind → FrameOk f → Q (.ref x) { s with heap := h', toks := tk' }) :
    wpAny (model PR w) (AA 570 570) (call (.ref 353) [.ref src, .str (Str.ofString kind) t]) Q E s := by
  k_dflt (refine' enter_def (W := [(src, o)]) X st (fun p hp => by rw [List.mem_singleton.mp hp]; exact ⟨hs, h0⟩) ?ho ?hcd ?room ?hb ?hl ?_ ?c2 ?c3 ?c4 ?c5)
  walk_at "MY_ENTER"
  intro g L h₁ F N KX T up dn
  clear X st
  k_unmd
  k_fold
  k_steps
  refine one_use KX T (by k_asm) (by k_asm) (by k_updF) ho (by k_ne) (by is_list) (by simp) (by simp) fun v o' h' tk' hr F' N' ho' => ?_
  try dsimp only at N'
  obtain ⟨many, tm, rfl, hm1, hm2⟩ : ∃ i t, v = .int i t ∧ 1 ≤ i ∧ i ≤ 6 := by
    simp only [List.mem_cons, List.not_mem_nil, or_false] at hr
    rcases hr with rfl | rfl | rfl | rfl | rfl | rfl <;> exact ⟨_, _, rfl, by decide, by decide⟩
  clear hr
  k_steps
  refine ⟨?_⟩
  refine For_invV g rfl rfl ?_ (hE := PassesOwn.never)
  k_steps
  refine ⟨?_⟩
  rename Fr _ _ _ _ => F9
  rename News _ _ _ _ => N9
  refine loop_range1 (n := many.toNat) (FrJ src ?lr) rfl (by omega) (by omega) F9 (news_sub N9 (l' := [(?lr, W.listOf #[] 0), (src, o')]) ?sub) ?start ?turn ?done
  case sub => exact List.forall_mem_cons.mpr ⟨by k_mem, List.forall_mem_cons.mpr ⟨by k_mem, List.forall_mem_nil _⟩⟩
  case start =>
    exact ⟨_, _, [], [], [], rfl, ho', (fun _ h => nomatch h), (fun _ h => nomatch h), (by k_ne), .nil, rfl, (fun _ h => nomatch h), Keep.refl _ _⟩
  case turn =>
    clear F9 N9
    rintro i t m₁ nx h tk I oI hi hI ⟨so, c, as, comps, tl, rfl, hso, h1, h2, h3, hc, hlen, hb, u, rfl⟩ F N
    obtain ⟨hI1, hI⟩ := List.forall_mem_cons.mp hI
    obtain ⟨hI2, hI⟩ := List.forall_mem_cons.mp hI
    replace hI1 := neN hI1
    replace hI2 := neN hI2
    replace h3 := neN h3
    dsimp only at hI1 hI2 h3
    k_steps
    refine one_use KX T (by k_asm) (by k_asm) (by k_updF) hso (by k_ne) (by is_list) (by simp) (by simp) fun v o' h' tk' hr F' N' hso' => ?_
    try dsimp only at N'
    obtain ⟨ac, ta, rfl, ha1, ha2⟩ : ∃ i t, v = .int i t ∧ 1 ≤ i ∧ i ≤ 4 := by
      simp only [List.mem_cons, List.not_mem_nil, or_false] at hr
      rcases hr with rfl | rfl | rfl | rfl | rfl <;> exact ⟨_, _, rfl, by decide, by decide⟩
    clear hr hso
    k_steps
    refine one_use KX T (by k_asm) (by k_asm) (by k_updF) hso' (by k_ne) (by is_list) (by simp) (by simp) fun v o' h' tk' hr F' N' hso => ?_
    try dsimp only at N'
    obtain ⟨dn, td, rfl, hd1, hd2⟩ : ∃ i t, v = .int i t ∧ 1 ≤ i ∧ i ≤ 2 := by
      simp only [List.mem_cons, List.not_mem_nil, or_false] at hr
      rcases hr with rfl | rfl | rfl <;> exact ⟨_, _, rfl, by decide, by decide⟩
    clear hr hso'
    k_steps
    refine comp_new.use KX T (by k_asm) (by k_asm) trivial fun r h' tk' tl' F' N' off hp => ?_
    obtain ⟨x, rfl, hx⟩ := hp
    have hal := hc.length
    k_steps
    rename Fr _ _ _ _ => F9
    rename News _ _ _ _ => N9
    rw [refs_push] at N9
    refine ⟨_, _, _, (_, W.listOf (refs (as ++ [x])).toArray (c + 1)) :: (src, o') :: (tl' ++ tl), rfl, F9, news_sub N9 ?_, off_cons hI1 (off_cons hI2 (off_app (off_mem off (by k_mem)) hI)), o', c + 1, as ++ [x], comps ++ [(ac, dn)], tl' ++ tl, rfl, hso,
      off_app (off_mem off (by k_mem)) h1, off_app (off_mem off (by k_mem)) h2, h3, (hc.imp fun _ _ y => y.mono fun _ _ h => List.mem_append_right _ h).snoc (hx.mono fun _ _ h => List.mem_append_left _ h), by simp [hlen], ?_, ?_⟩
    · intro p hp
      simp only [List.mem_cons, List.mem_append] at hp ⊢
      rcases hp with rfl | rfl | rfl | hp | hp <;> simp [*]
    · intro c hc'
      rcases List.mem_append.mp hc' with h | h
      · exact hb c h
      · rw [List.mem_singleton.mp h]; exact ⟨ha1, ha2, hd1, hd2⟩
    · refine Keep.of fun z hz => ?_
      simp only [List.contains_cons, List.contains_nil, Bool.or_false, Bool.or_eq_false_iff, beq_eq_false_iff_ne] at hz
      simp [hz]
  case done =>
    clear F9 N9
    rintro m₁ nx h tk ⟨so, c, as, comps, tl, rfl, hso, h1, h2, h3, hc, hlen, hb, u, rfl⟩ F N
    k_steps
    refine one_use KX T (by k_asm) (by k_asm) (by k_updF) hso (by k_ne) (by is_list) (by simp) (by simp) fun v o' h' tk' hr F' N' hso' => ?_
    try dsimp only at N'
    obtain ⟨n, tn, rfl, hn1, hn2⟩ : ∃ i t, v = .int i t ∧ 1 ≤ i ∧ i ≤ 8 := by
      simp only [List.mem_cons, List.not_mem_nil, or_false] at hr
      rcases hr with rfl | rfl | rfl | rfl | rfl <;> exact ⟨_, _, rfl, by decide, by decide⟩
    clear hr hso
    k_steps
    refine frame_new.use KX T (by k_asm) (by k_asm) trivial fun r h' tk' tl' F' N' off hp => ?_
    obtain ⟨x, rfl, hx⟩ := hp
    k_steps
    have hal := hc.length
    refine hQ x ⟨kind, comps, n⟩ _ _ ((_, W.listOf (refs as).toArray c) :: (tl' ++ tl)) (fun b o hb e => F'.keep b o (up b o e (by simpa using hb))) (fun p hp => ?_) ⟨_, as, hx.mono fun _ _ h => .tail _ (List.mem_append_left _ h), ⟨_, _, .head _, rfl, rfl⟩, hc.imp fun _ _ y => y.mono fun _ _ h => .tail _ (List.mem_append_right _ h)⟩ rfl ⟨?_, ?_, hb, hn1, hn2⟩
    · have hp1 := N' p (by
        simp only [List.mem_cons, List.mem_append] at hp ⊢
        rcases hp with rfl | hp | hp <;> simp [*])
      refine ⟨hp1.1, ?_⟩
      cases q : s.heap.get? p.1 with
      | none => rfl
      | some o =>
        have := up _ _ q (by
          simp only [List.map_cons, List.map_nil, List.mem_singleton]
          exact off_cons h3 (off_app (off_mem off (by k_mem)) h2) p hp)
        rw [hp1.2.2] at this; cases this
    · show 1 ≤ comps.length; omega
    · show comps.length ≤ 6; omega
end

section
abbrev GSt := List (List Int) × List Int × Int
def gstep (st : GSt) (p more : Int) : GSt :=
  if st.2.1 ≠ [] ∧ (st.2.1.length = 4 ∨ 10 < st.2.2 + more) then (st.1 ++ [st.2.1], [p], more) else (st.1, st.2.1 ++ [p], st.2.2 + more)
def gfold (ms : List Int) : Nat → GSt
  | 0 => ([], [], 0)
  | i + 1 => gstep (gfold ms i) i (ms.getD i 0)
def groupsOf (ms : List Int) : List (List Int) := (gfold ms ms.length).1 ++ [(gfold ms ms.length).2.1]
def FrameD.ms (f : FrameD) : List Int := f.comps.map fun c => c.1 * c.2

theorem gfold_len (ms : List Int) : ∀ i, (gfold ms i).2.1.length ≤ 4
  | 0 => by simp [gfold]
  | i + 1 => by
    have ih := gfold_len ms i
    simp only [gfold, gstep]
    split
    · simp
    · rename_i h
      simp only [List.length_append, List.length_singleton]
      by_cases e : (gfold ms i).2.1 = []
      · simp [e]
      · have : ¬ ((gfold ms i).2.1.length = 4) := fun q => h ⟨e, .inl q⟩
        omega

theorem gfold_many (ms : List Int) : ∀ i, (gfold ms i).1.length ≤ i
  | 0 => by simp [gfold]
  | i + 1 => by
    have ih := gfold_many ms i
    simp only [gfold, gstep]
    split
    · simp only [List.length_append, List.length_singleton]; omega
    · exact Nat.le_succ_of_le ih

def GrJ (lf : Addr) (ms : List Int) (m₀ : Str → Option Value) (i : Nat) (m : Str → Option Value) (nx : List (Addr × Obj)) : Prop :=
  ∃ c fas tl lh t, nx = (lf, W.listOf (refs fas).toArray c) :: tl ∧ (∀ p ∈ tl, p.1 ≠ lf) ∧ All2 (IntsS (On tl)) fas (gfold ms i).1 ∧ IntsS (On tl) lh (gfold ms i).2.1 ∧
    Keep2 ["place", "more"] "here" (.ref lh) "many" (.int (gfold ms i).2.2 t) m₀ m

theorem gr_end {g h' : Heap} {L I lf ln : Addr} {oI : Obj} {ms : List Int} {m₀ m' : Str → Option Value} {i c' : Nat} {s₁ : Shared} {Q : Flow → Shared → Prop} {tk : Nat} {t : Tok} {vs' : List Value} {fas' : List Addr} {rest tl : List (Addr × Obj)}
    (F9 : Fr g L h' m') (N9 : News g L h' ((ln, W.listOf vs'.toArray 0) :: rest)) (hI1 : lf ≠ I) (hI : ∀ p ∈ tl, p.1 ≠ I) (h1 : ∀ p ∈ tl, p.1 ≠ lf) (n1 : ln ≠ I) (n2 : ln ≠ lf) (mI : (I, oI) ∈ rest) (mf : (lf, W.listOf (refs fas').toArray c') ∈ rest) (mtl : ∀ p ∈ tl, p ∈ rest)
    (hfs : All2 (IntsS (On tl)) fas' (gfold ms (i + 1)).1) (hi : IntsAre vs' (gfold ms (i + 1)).2.1) (hx : m' "here" = some (.ref ln)) (hy : m' "many" = some (.int (gfold ms (i + 1)).2.2 t))
    (hk : ∀ z, (["place", "more"] : List Str).contains z = false → z ≠ "here" → z ≠ "many" → m' z = m₀ z) :
    TurnPost g L I oI (GrJ lf ms m₀ (i + 1)) s₁ Q .next { s₁ with heap := h', toks := tk } := by
  refine ⟨_, _, _, (lf, W.listOf (refs fas').toArray c') :: (ln, W.listOf vs'.toArray 0) :: tl, rfl, F9, news_sub N9 ?_, off_cons hI1 (off_cons n1 hI), c', fas', (ln, W.listOf vs'.toArray 0) :: tl, ln, t, rfl, off_cons n2 h1,
    hfs.imp fun _ _ y => y.mono fun _ _ h => .tail _ h, ⟨_, ⟨_, _, .head _, rfl, rfl⟩, hi⟩, Keep2.of hx hy hk⟩
  intro p hp
  simp only [List.mem_cons] at hp ⊢
  rcases hp with rfl | rfl | rfl | hp
  · exact .inr mI
  · exact .inr mf
  · exact .inl rfl
  · exact .inr (mtl _ hp)

theorem groups_spec {w : World} {fx : Addr} {f : FrameD} :
    Con 560 560 w 195 [.ref fx] (fun S => FrameS S fx f ∧ FrameOk f) (fun S r => ∃ a, r = .ref a ∧ ListsS S a (groupsOf f.ms)) := by
  rintro E Q s mg mb h₀ X st ⟨hf, hok⟩ hQ
  k_dflt (refine' enter_def (binds := [(Str.ofString "frame", .ref fx)]) (W := []) X st (fun _ h => nomatch h) ?ho ?hcd ?room ?hb ?hl ?_ ?c2 ?c3 ?c4 ?c5)
  walk_at "MY_ENTER"
  intro g L h₁ F N KX T up dn
  have up' : s.heap.StaysIn g := fun b o e => up b o e (by simp)
  obtain ⟨cs, as, ⟨dx, a1, a2, a3, a4, a5, a6, k1, k2, k3, k4, k5, k6, t1, v2, v3, v4, t6, hx, hdx⟩, hcs, hcomps⟩ := hf.mono (S' := At g) up'
  have hcl := hcs.isList
  have hal := hcomps.length
  obtain ⟨hok1, hok2, hok3, hok4, hok5⟩ := hok
  clear hf up dn X st
  k_unmd
  k_fold
  k_steps
  refine ⟨?_⟩
  refine For_invV g rfl rfl ?_ (hE := PassesOwn.never)
  k_steps
  refine ⟨?_⟩
  rename Fr _ _ _ _ => F9
  rename News _ _ _ _ => N9
  refine loop_range1 (n := as.length) (GrJ ?lf f.ms) rfl rfl (by omega) F9 (news_sub N9 (l' := [(?lf, W.listOf #[] 0), (?lh, W.listOf #[] 0)]) ?sub) ?start ?turn ?done
  case sub => exact List.forall_mem_cons.mpr ⟨by refine List.Mem.tail _ (List.Mem.tail _ ?_); exact List.Mem.head _, List.forall_mem_cons.mpr ⟨by refine List.Mem.tail _ ?_; exact List.Mem.head _, List.forall_mem_nil _⟩⟩
  case start =>
    refine ⟨0, [], _, _, _, rfl, off_cons (by k_ne) (fun _ h => nomatch h), .nil, ⟨[], ⟨_, _, .head _, rfl, rfl⟩, .nil⟩, Keep2.of rfl rfl fun _ _ _ _ => rfl⟩
  case turn =>
    clear F9 N9
    rintro i t m₁ nx h tk I oI hi hI ⟨c, fas, tl, lh, tm, rfl, h1, hfs, hh, u, rfl⟩ F N
    obtain ⟨hI1, hI⟩ := List.forall_mem_cons.mp hI
    replace hI1 := neN hI1
    dsimp only at hI1
    have hci : f.comps[i]? = some f.comps[i] := List.getElem?_eq_getElem (by omega)
    obtain ⟨a, ha, da, b1, b2, b3, b4, l1, l2, l3, l4, w1, w4, u2, u3, hax, hadx⟩ := hcomps.get hci
    obtain ⟨c1, c2, c3, c4⟩ := hok3 _ (List.mem_of_getElem? hci)
    have ha' : as[(i : Int).toNat]? = some a := by simpa using ha
    obtain ⟨vsh, hhl, hhi⟩ := hh
    have hhn := hhi.length
    have h4 := gfold_len f.ms i
    have hal' := hfs.length
    have hgm := gfold_many f.ms i
    have hms : f.ms.getD i 0 = f.comps[i].1 * f.comps[i].2 := by simp [FrameD.ms, hci]
    k_steps
    all_goals (
      rename Fr _ _ _ _ => F9
      rename News _ _ _ _ => N9)
    · have eg : gfold f.ms (i + 1) = ((gfold f.ms i).1, (gfold f.ms i).2.1 ++ [(i : Int)], (gfold f.ms i).2.2 + f.comps[i].1 * f.comps[i].2) := by
        simp only [gfold, gstep, hms]; rw [if_neg (by simp_all)]
      refine gr_end F9 N9 hI1 hI h1 (by k_ne) (by k_ne) (by k_mem) (by k_mem) (by walk_at "MY_SUB") (by rw [eg]; exact hfs) (by rw [eg]; exact hhi.append (.cons _ _ .nil)) rfl (by rw [eg]; rfl) fun z hz z1 z2 => ?_
      simp only [List.contains_cons, List.contains_nil, Bool.or_false, Bool.or_eq_false_iff, beq_eq_false_iff_ne] at hz
      simp [hz, z1, z2]
    · have eg : gfold f.ms (i + 1) = ((gfold f.ms i).1 ++ [(gfold f.ms i).2.1], [(i : Int)], 0 + f.comps[i].1 * f.comps[i].2) := by
        simp only [gfold, gstep, hms, Int.zero_add]; rw [if_pos (by simp_all; omega)]
      rw [refs_push] at N9
      refine gr_end F9 N9 hI1 hI h1 (by k_ne) (by k_ne) (by k_mem) (by k_mem) (by walk_at "MY_SUB") (by rw [eg]; exact hfs.snoc ⟨_, hhl, hhi⟩) (by rw [eg]; exact .cons _ _ .nil) rfl (by rw [eg]; rfl) fun z hz z1 z2 => ?_
      simp only [List.contains_cons, List.contains_nil, Bool.or_false, Bool.or_eq_false_iff, beq_eq_false_iff_ne] at hz
      simp [hz, z1, z2]
    · have eg : gfold f.ms (i + 1) = ((gfold f.ms i).1 ++ [(gfold f.ms i).2.1], [(i : Int)], 0 + f.comps[i].1 * f.comps[i].2) := by
        simp only [gfold, gstep, hms, Int.zero_add]; rw [if_pos (by simp_all)]
      rw [refs_push] at N9
      refine gr_end F9 N9 hI1 hI h1 (by k_ne) (by k_ne) (by k_mem) (by k_mem) (by walk_at "MY_SUB") (by rw [eg]; exact hfs.snoc ⟨_, hhl, hhi⟩) (by rw [eg]; exact .cons _ _ .nil) rfl (by rw [eg]; rfl) fun z hz z1 z2 => ?_
      simp only [List.contains_cons, List.contains_nil, Bool.or_false, Bool.or_eq_false_iff, beq_eq_false_iff_ne] at hz
      simp [hz, z1, z2]
    · have eg : gfold f.ms (i + 1) = ((gfold f.ms i).1, (gfold f.ms i).2.1 ++ [(i : Int)], (gfold f.ms i).2.2 + f.comps[i].1 * f.comps[i].2) := by
        simp only [gfold, gstep, hms]; rw [if_neg (by simp_all; omega)]
      refine gr_end F9 N9 hI1 hI h1 (by k_ne) (by k_ne) (by k_mem) (by k_mem) (by walk_at "MY_SUB") (by rw [eg]; exact hfs) (by rw [eg]; exact hhi.append (.cons _ _ .nil)) rfl (by rw [eg]; rfl) fun z hz z1 z2 => ?_
      simp only [List.contains_cons, List.contains_nil, Bool.or_false, Bool.or_eq_false_iff, beq_eq_false_iff_ne] at hz
      simp [hz, z1, z2]
  case done =>
    clear F9 N9
    rintro m₁ nx h tk ⟨c, fas, tl, lh, tm, rfl, h1, hfs, hh, u, rfl⟩ F N
    have hal' := hfs.length
    have hgm := gfold_many f.ms as.length
    k_steps
    dsimp only
    rename Fr _ _ _ _ => F9
    rename News _ _ _ _ => N9
    rw [refs_push] at N9
    have hml : f.ms.length = as.length := by rw [hal]; simp [FrameD.ms]
    refine hQ _ _ _ _ (stays_of F9 up') (led_of N9 up') ⟨_, rfl, _, ⟨_, _, .head _, rfl, rfl⟩, ?_⟩
    rw [groupsOf, hml]
    exact (hfs.imp fun _ _ y => y.mono fun _ _ h => .tail _ h).snoc (hh.mono fun _ _ h => .tail _ h)
end

section
def slotOf (p : Int) : Int := if p = 0 then 0 else 1
theorem slot_spec {w : World} {k : Int} {t : Tok} : Con 600 600 w 183 [.int k t] (fun _ => True) (fun S r => ∃ t', r = .int (slotOf k) t') := by
  rintro E Q s mg mb h₀ X st _ hQ
  k_dflt (refine' enter_def (binds := [(Str.ofString "place", .int k t)]) (W := []) X st (fun _ h => nomatch h) ?ho ?hcd ?room ?hb ?hl ?_ ?c2 ?c3 ?c4 ?c5)
  walk_at "MY_ENTER"
  intro g L h₁ F N KX T up dn
  have up' : s.heap.StaysIn g := fun b o e => up b o e (by simp)
  clear up dn X st
  k_unmd
  k_fold
  k_steps
  all_goals dsimp only
  all_goals (
    rename Fr _ _ _ _ => F9
    rename News _ _ _ _ => N9)
  · exact hQ _ _ _ _ (stays_of F9 up') (led_of N9 up') ⟨_, by simp [slotOf, *]; rfl⟩
  · exact hQ _ _ _ _ (stays_of F9 up') (led_of N9 up') ⟨_, by simp [slotOf, *]; rfl⟩

theorem scan_of_spec {w : World} {pl : Addr} {ps : List Int} {a b c d : Int} {t1 t2 t3 t4 : Tok} : Con 540 540 w 188 [.ref pl, .int a t1, .int b t2, .int c t3, .int d t4] (fun S => IntsS S pl ps ∧ ps.length ≤ 1000)
    (fun S r => ∃ x dc ac, r = .ref x ∧ ScanI S x pl dc ac a b c d ∧ IntsS S dc (ps.map slotOf) ∧ IntsS S ac (ps.map slotOf)) := by
  rintro E Q s mg mb h₀ X st ⟨⟨vs, hpl, hi⟩, hlen⟩ hQ
  k_dflt (refine' enter_def (binds := [(Str.ofString "places", .ref pl), (Str.ofString "start", .int a t1), (Str.ofString "end", .int b t2), (Str.ofString "high", .int c t3), (Str.ofString "low", .int d t4)]) (W := []) X st (fun _ h => nomatch h) ?ho ?hcd ?room ?hb ?hl ?_ ?c2 ?c3 ?c4 ?c5)
  walk_at "MY_ENTER"
  intro g L h₁ F N KX T up dn
  have up' : s.heap.StaysIn g := fun b o e => up b o e (by simp)
  replace hpl := (hpl.mono (S' := At g) up').isList
  clear up dn X st
  k_unmd
  k_fold
  k_steps
  refine ⟨?_⟩
  rename Fr _ _ _ _ => F9
  rename News _ _ _ _ => N9
  k_dflt (refine' comp_assign (cl := []) F9 ?sw rfl ?clo ?cell ?kind ?nm ?x ?y ?p ?_)
  walk_at "MY_COMP"
  k_steps
  refine CompAt.base (MapI slotOf) hpl (intV_of hi) (by k_asm) (by k_asm) (by rw [hi.length, sizeLine_eq]; omega) (fun C => ?elt) (fun D h' tk ys made n F' N' oD mN hB => ?fin)
  case elt =>
    clear F9 N9
    intro s' v k oC rest mC hk hv _ F N sub nsC hm
    obtain ⟨t, rfl⟩ := hv
    k_steps
    refine slot_spec.use KX T F N trivial fun r h' tk' tl F' N' off hp => ?_
    obtain ⟨t', rfl⟩ := hp
    k_unfold
    exact ⟨_, _, tl, rfl, F', N', off, t', rfl⟩
  case fin =>
    clear F9 N9
    have hsl := hB.ints
    have hyl := hB.length
    have hvl := hi.length
    k_steps
    refine scan_new.use KX T (by k_asm) (by k_asm) trivial fun r h' tk' tl F' N' off hp => ?_
    obtain ⟨x, rfl, hx⟩ := hp
    k_unfold
    exact hQ _ _ _ _ (stays_of F' up') (led_of N' up') ⟨x, D, _, rfl, hx.mono fun _ _ h => List.mem_append_left _ h, ⟨ys, ⟨_, _, List.mem_append_right _ (.tail _ (.head _)), rfl, rfl⟩, hsl⟩, ⟨ys, ⟨_, _, List.mem_append_right _ (.head _), rfl, rfl⟩, hsl⟩⟩
end

section
def mkScan (ps : List Int) (a b c d : Int) : ScanD := ⟨ps, ps.map slotOf, ps.map slotOf, a, b, c, d⟩

theorem gfold_each (ms : List Int) : ∀ i, ∀ ps ∈ (gfold ms i).1, ps.length ≤ 4
  | 0 => by simp [gfold]
  | i + 1 => by
    have ih := gfold_each ms i
    have h4 := gfold_len ms i
    simp only [gfold, gstep]
    split
    · intro ps hp
      rcases List.mem_append.mp hp with h | h
      · exact ih ps h
      · rw [List.mem_singleton.mp h]; exact h4
    · exact ih
theorem groupsOf_each (ms : List Int) : ∀ ps ∈ groupsOf ms, ps.length ≤ 4 := fun ps hp => by
  rcases List.mem_append.mp hp with h | h
  · exact gfold_each ms _ ps h
  · rw [List.mem_singleton.mp h]; exact gfold_len ms _
theorem groupsOf_len (ms : List Int) : (groupsOf ms).length ≤ ms.length + 1 := by
  have := gfold_many ms ms.length
  simp only [groupsOf, List.length_append, List.length_singleton]; omega

theorem dc_spec {w : World} {fx : Addr} {f : FrameD} {hi lo : Int} {t1 t2 : Tok} :
    Con 520 520 w 205 [.ref fx, .int hi t1, .int lo t2] (fun S => FrameS S fx f ∧ FrameOk f) (fun S r => ∃ a, r = .ref a ∧ ScansS S a ((groupsOf f.ms).map fun g => mkScan g 0 0 hi lo)) := by
  rintro E Q s mg mb h₀ X st ⟨hf, hok⟩ hQ
  k_dflt (refine' enter_cells (binds := [(Str.ofString "frame", .ref fx), (Str.ofString "high", .int hi t1), (Str.ofString "low", .int lo t2)]) (W := []) X st (fun _ h => nomatch h) ?ho ?hcd ?room ?hb ?hkd ?hnd ?_ ?c2 ?c3 ?c4)
  walk_at "MY_CELLS"
  intro g L h₁ tk cells F N Y KX T up dn
  k_cells Y
  rename_i o1 o2 d1 d2
  replace d1 : o1.data = .cell (some (.int lo t2)) := d1
  replace d2 : o2.data = .cell (some (.int hi t1)) := d2
  simp only [List.cons_append, List.nil_append] at N
  have up' : s.heap.StaysIn g := fun b o e => up b o e (by simp)
  replace hf := hf.mono (S' := At g) up'
  clear up dn X st
  k_unmd
  k_fold
  k_steps
  refine ⟨?_⟩
  rename Fr _ _ _ _ => F9
  rename News _ _ _ _ => N9
  k_dflt (refine' comp_eval F9 rfl ?clo ?cell ?kind ?nm ?x ?_)
  walk_at "MY_COMP"
  k_steps
  refine groups_spec.use KX T F9 N9 ⟨hf.mono F9.keep, hok⟩ fun r h' tk' tl F' N' off hp => ?_
  obtain ⟨la, rfl, as, hla, has⟩ := hp
  clear F9 N9
  have hlen := has.length
  have hgl := groupsOf_len f.ms
  have hml : f.ms.length ≤ 6 := by simpa [FrameD.ms] using hok.2.1
  refine CompAt.on0 (RefR fun S x ps => ScanS (fun a o => S a o ∨ (a, o) ∈ tl) x (mkScan ps 0 0 hi lo)) (hla.mono fun _ _ h => List.mem_append_left _ h) (refV_of has) F' N' (by rw [List.length_map, sizeLine_eq]; omega) (fun C => ?elt) (fun D h' tk ys made n F' N' oD mN hB => ?fin)
  case elt =>
    clear F' N'
    intro s' v ps oC rest mC hps hv _ F N sub nsC hm
    obtain ⟨a, rfl, ha⟩ := hv
    have m1 := sub _ (List.mem_append_right _ (List.Mem.head _))
    have m2 := sub _ (List.mem_append_right _ (List.Mem.tail _ (List.Mem.head _)))
    have hpl := groupsOf_each f.ms ps hps
    k_steps
    refine scan_of_spec.use KX T F N ⟨ha.mono fun _ _ h => (N _ (.tail _ (sub _ (List.mem_append_left _ h)))).1, by omega⟩ fun r h' tk' tl' F' N' off hp => ?_
    obtain ⟨x, dc, ac, rfl, hx, hdc, hac⟩ := hp
    k_unfold
    exact ⟨_, _, tl', rfl, F', N', off, x, rfl, a, dc, ac, hx.mono fun _ _ h => .inl h, ha.mono fun _ _ h => .inr h, hdc.mono fun _ _ h => .inl h, hac.mono fun _ _ h => .inl h⟩
  case fin =>
    obtain ⟨xs, rfl, hxs⟩ := hB.refs (P := fun S x ps => ScanS (fun a o => S a o ∨ (a, o) ∈ tl) x (mkScan ps 0 0 hi lo)) (fun k h => h.mono fun _ _ h => h.imp (k _ _) id)
    k_unfold
    dsimp only
    refine hQ _ _ _ _ (stays_of F' up') (led_of N' up') ⟨D, rfl, xs, ⟨_, _, .head _, rfl, rfl⟩, (hxs.imp fun _ _ h => h.mono fun _ _ h => ?_).mapR⟩
    rcases h with h | h
    · exact .tail _ (List.mem_append_left _ h)
    · exact .tail _ (List.mem_append_right _ (List.mem_append_left _ h))
end

section
def acD (ps : List Int) (a b hi lo : Int) : List ScanD := if b < a then [] else ps.map fun p => mkScan [p] a b hi lo

theorem allLt_off {d : Addr} : ∀ {l : List (Addr × Obj)}, AllLt d l → ∀ r ∈ l, d ≠ r.1
  | [], _, _, h => nomatch h
  | p :: l, h, r, hr => by
    rcases List.mem_cons.mp hr with rfl | hr
    · exact Ne.symm (Nat.ne_of_lt h.1)
    · exact allLt_off h.2 r hr
theorem off_elt {tl' news : List (Addr × Obj)} {l : Addr} {o : Obj} (off : ∀ p ∈ tl', ∀ q ∈ (l, o) :: news, p.1 ≠ q.1) (h : AllLt l news) : ∀ p ∈ tl' ++ [(l, o)], ∀ q ∈ news, p.1 ≠ q.1 := fun p hp q hq => by
  rcases List.mem_append.mp hp with hp | hp
  · exact off p hp q (.tail _ hq)
  · rw [List.mem_singleton.mp hp]; exact allLt_off h q hq

theorem ac_spec {w : World} {pl : Addr} {ps : List Int} {a b hi lo : Int} {t1 t2 t3 t4 : Tok} :
    Con 530 530 w 210 [.ref pl, .int a t1, .int b t2, .int hi t3, .int lo t4] (fun S => IntsS S pl ps ∧ ps.length ≤ 1000) (fun S r => ∃ x, r = .ref x ∧ ScansS S x (acD ps a b hi lo)) := by
  rintro E Q s mg mb h₀ X st ⟨hp, hlen⟩ hQ
  k_dflt (refine' enter_cells (binds := [(Str.ofString "places", .ref pl), (Str.ofString "start", .int a t1), (Str.ofString "end", .int b t2), (Str.ofString "high", .int hi t3), (Str.ofString "low", .int lo t4)]) (W := []) X st (fun _ h => nomatch h) ?ho ?hcd ?room ?hb ?hkd ?hnd ?_ ?c2 ?c3 ?c4)
  walk_at "MY_CELLS"
  intro g L h₁ tk cells F N Y KX T up dn
  k_cells Y
  rename_i o1 o2 o3 o4 d1 d2 d3 d4
  replace d1 : o1.data = .cell (some (.int lo t4)) := d1
  replace d2 : o2.data = .cell (some (.int hi t3)) := d2
  replace d3 : o3.data = .cell (some (.int b t2)) := d3
  replace d4 : o4.data = .cell (some (.int a t1)) := d4
  simp only [List.cons_append, List.nil_append] at N
  have up' : s.heap.StaysIn g := fun b o e => up b o e (by simp)
  replace hp := hp.mono (S' := At g) up'
  obtain ⟨vs, hpl, hvs⟩ := hp
  replace hpl := hpl.isList
  clear up dn X st
  k_unmd
  k_fold
  k_steps
  · rename Fr _ _ _ _ => F9
    rename News _ _ _ _ => N9
    refine hQ _ _ _ _ (stays_of F9 up') (led_of (news_sub N9 (l' := [(_, W.listOf #[] 0)]) fun p hp => by rw [List.mem_singleton.mp hp]; exact .head _) up') ⟨_, rfl, [], ⟨_, _, .head _, rfl, rfl⟩, ?_⟩
    rw [acD, if_pos (by assumption)]; exact .nil
  · refine ⟨?_⟩
    rename Fr _ _ _ _ => F9
    rename News _ _ _ _ => N9
    k_dflt (refine' comp_eval F9 rfl ?clo ?cell ?kind ?nm ?x ?_)
    walk_at "MY_COMP"
    k_steps
    refine CompAt.base (RefR fun S x p => ScanS S x (mkScan [p] a b hi lo)) hpl (intV_of hvs) (by k_asm) (by k_asm) (by rw [hvs.length, sizeLine_eq]; omega) (fun C => ?elt) (fun D h' tk ys made n F' N' oD mN hB => ?fin)
    case elt =>
      clear F9 N9
      intro s' v p oC rest mC hps hv _ F N sub nsC hm
      obtain ⟨t, rfl⟩ := hv
      have m1 := sub _ (List.Mem.head _)
      have m2 := sub _ (List.Mem.tail _ (List.Mem.head _))
      have m3 := sub _ (List.Mem.tail _ (List.Mem.tail _ (List.Mem.head _)))
      have m4 := sub _ (List.Mem.tail _ (List.Mem.tail _ (List.Mem.tail _ (List.Mem.head _))))
      k_steps
      rename _ ∧ AllLt _ _ => l1
      refine (scan_of_spec (ps := [p])).use KX T (by k_asm) (by k_asm) ⟨⟨[.int p t], isList_LstS (by is_list), .cons _ _ .nil⟩, by simp⟩ fun r h' tk' tl' F' N' off hp => ?_
      obtain ⟨x, dc, ac, rfl, hx, hdc, hac⟩ := hp
      k_unfold
      refine ⟨_, _, tl' ++ [(_, W.listOf #[.int p t] 0)], rfl, F', by rw [List.append_assoc]; exact N', off_elt off l1, x, rfl, _, dc, ac, hx.mono fun _ _ h => List.mem_append_left _ h, ⟨[.int p t], ⟨_, _, List.mem_append_right _ (.head _), rfl, rfl⟩, .cons _ _ .nil⟩, hdc.mono fun _ _ h => List.mem_append_left _ h, hac.mono fun _ _ h => List.mem_append_left _ h⟩
    case fin =>
      clear F9 N9
      obtain ⟨xs, rfl, hxs⟩ := hB.refs (P := fun S x p => ScanS S x (mkScan [p] a b hi lo)) (fun k h => h.mono k)
      try k_unfold
      dsimp only
      refine hQ _ _ _ _ (stays_of F' up') (led_of N' up') ⟨D, rfl, xs, ⟨_, _, .head _, rfl, rfl⟩, ?_⟩
      rw [acD, if_neg (by assumption)]
      exact (hxs.imp fun _ _ h => h.mono fun _ _ h => .tail _ (List.mem_append_left _ h)).mapR
end

section
def lastOf (f : FrameD) : Int := f.n * f.n - 1
def seqD (f : FrameD) : List ScanD := (groupsOf f.ms).map fun g => mkScan g 0 (lastOf f) 0 0

theorem seq_spec {w : World} {fx : Addr} {f : FrameD} :
    Con 510 510 w 200 [.ref fx] (fun S => FrameS S fx f ∧ FrameOk f) (fun S r => ∃ a, r = .ref a ∧ ScansS S a (seqD f)) := by
  rintro E Q s mg mb h₀ X st ⟨hf, hok⟩ hQ
  k_dflt (refine' enter_cells (binds := [(Str.ofString "frame", .ref fx)]) (W := []) X st (fun _ h => nomatch h) ?ho ?hcd ?room ?hb ?hkd ?hnd ?_ ?c2 ?c3 ?c4)
  walk_at "MY_CELLS"
  intro g L h₁ tk cells F N Y KX T up dn
  k_cells Y
  rename_i o1 d1
  replace d1 : o1.data = .cell none := d1
  simp only [List.cons_append, List.nil_append] at N
  have up' : s.heap.StaysIn g := fun b o e => up b o e (by simp)
  replace hf := hf.mono (S' := At g) up'
  obtain ⟨cs, as, ⟨dx, a1, a2, a3, a4, a5, a6, k1, k2, k3, k4, k5, k6, t1, v2, v3, v4, t6, hx, hdx⟩, hcs, hcomps⟩ := id hf
  have hok' := hok
  obtain ⟨hok1, hok2, hok3, hok4, hok5⟩ := hok'
  clear up dn X st
  k_unmd
  k_fold
  k_steps
  rename_i h2 o2 F9 N9 d2
  refine ⟨?_⟩
  k_dflt (refine' comp_eval F9 rfl ?clo ?cell ?kind ?nm ?x ?_)
  walk_at "MY_COMP"
  k_steps
  refine groups_spec.use KX T F9 N9 ⟨hf.mono F9.keep, hok⟩ fun r h' tk' tl F' N' off hp => ?_
  obtain ⟨la, rfl, as', hla, has⟩ := hp
  clear F9 N9
  have hlen := has.length
  have hgl := groupsOf_len f.ms
  have hml : f.ms.length ≤ 6 := by simpa [FrameD.ms] using hok.2.1
  refine CompAt.on0 (RefR fun S x ps => ScanS (fun a o => S a o ∨ (a, o) ∈ tl) x (mkScan ps 0 (lastOf f) 0 0)) (hla.mono fun _ _ h => List.mem_append_left _ h) (refV_of has) F' N' (by rw [List.length_map, sizeLine_eq]; omega) (fun C => ?elt) (fun D h' tk ys made n F' N' oD mN hB => ?fin)
  case elt =>
    clear F' N'
    intro s' v ps oC rest mC hps hv _ F N sub nsC hm
    obtain ⟨a, rfl, ha⟩ := hv
    have m1 := sub _ (List.mem_append_right _ (List.Mem.head _))
    have hpl := groupsOf_each f.ms ps hps
    k_steps
    refine scan_of_spec.use KX T F N ⟨ha.mono fun _ _ h => (N _ (.tail _ (sub _ (List.mem_append_left _ h)))).1, by omega⟩ fun r h' tk' tl' F' N' off hp => ?_
    obtain ⟨x, dc, ac, rfl, hx, hdc, hac⟩ := hp
    k_unfold
    exact ⟨_, _, tl', rfl, F', N', off, x, rfl, a, dc, ac, hx.mono fun _ _ h => .inl h, ha.mono fun _ _ h => .inr h, hdc.mono fun _ _ h => .inl h, hac.mono fun _ _ h => .inl h⟩
  case fin =>
    obtain ⟨xs, rfl, hxs⟩ := hB.refs (P := fun S x ps => ScanS (fun a o => S a o ∨ (a, o) ∈ tl) x (mkScan ps 0 (lastOf f) 0 0)) (fun k h => h.mono fun _ _ h => h.imp (k _ _) id)
    try k_unfold
    dsimp only
    refine hQ _ _ _ _ (stays_of F' up') (led_of N' up') ⟨D, rfl, xs, ⟨_, _, .head _, rfl, rfl⟩, (hxs.imp fun _ _ h => h.mono fun _ _ h => ?_).mapR⟩
    rcases h with h | h
    · exact .tail _ (List.mem_append_left _ h)
    · exact .tail _ (List.mem_append_right _ (List.mem_append_left _ h))
end

section
theorem lstS_of {S : Addr → Obj → Prop} {a : Addr} {vs vs' : List Value} {n : Nat} (h : S a (W.listOf vs.toArray n)) (e : vs = vs') : LstS S a vs' := e ▸ ⟨_, n, h, rfl, rfl⟩
theorem scs_sub {tl tl' : List (Addr × Obj)} {xs : List Addr} {cs : List ScanD} (h : All2 (ScanS (On tl)) xs cs) (hs : ∀ p ∈ tl, p ∈ tl') : All2 (ScanS (On tl')) xs cs := h.imp fun _ _ h => h.mono fun _ _ h => hs _ h


def cutOf (f : FrameD) : Int := if lastOf f < 5 then lastOf f else 5
def dcD (f : FrameD) (hi lo : Int) : List ScanD := (groupsOf f.ms).map fun g => mkScan g 0 0 hi lo
def colourD (f : FrameD) : List ScanD :=
  (dcD f 0 1 ++ acD [0] 1 (cutOf f) 0 2 ++ acD [2, 1] 1 (lastOf f) 0 1) ++ acD [0] (cutOf f + 1) (lastOf f) 0 2 ++ acD [0] 1 (lastOf f) 2 1 ++ dcD f 1 0 ++ acD [2, 1, 0] 1 (lastOf f) 1 0
def placesOf (f : FrameD) : List Int := rangeKs 0 f.comps.length
def plainD (f : FrameD) : List ScanD :=
  (dcD f 0 1 ++ acD (placesOf f) 1 (cutOf f) 0 2 ++ acD (placesOf f) (cutOf f + 1) (lastOf f) 0 2) ++ acD (placesOf f) 1 (lastOf f) 2 1 ++ dcD f 1 0 ++ acD (placesOf f) 1 (lastOf f) 1 0

theorem dcD_len (f : FrameD) (hok : FrameOk f) (hi lo : Int) : (dcD f hi lo).length ≤ 7 := by
  have h1 := groupsOf_len f.ms
  have h2 : f.ms.length ≤ 6 := by simpa [FrameD.ms] using hok.2.1
  simp only [dcD, List.length_map]; omega
theorem acD_len (ps : List Int) (a b hi lo : Int) : (acD ps a b hi lo).length ≤ ps.length := by
  unfold acD; split <;> simp

theorem colour_spec {w : World} {fx : Addr} {f : FrameD} :
    Con 500 500 w 217 [.ref fx] (fun S => FrameS S fx f ∧ FrameOk f) (fun S r => ∃ a, r = .ref a ∧ ScansS S a (colourD f)) := by
  rintro E Q s mg mb h₀ X st ⟨hf, hok⟩ hQ
  k_dflt (refine' enter_def (binds := [(Str.ofString "frame", .ref fx)]) (W := []) X st (fun _ h => nomatch h) ?ho ?hcd ?room ?hb ?hl ?_ ?c2 ?c3 ?c4 ?c5)
  walk_at "MY_ENTER"
  intro g L h₁ F N KX T up dn
  have up' : s.heap.StaysIn g := fun b o e => up b o e (by simp)
  replace hf := hf.mono (S' := At g) up'
  obtain ⟨cs, as, ⟨dx, a1, a2, a3, a4, a5, a6, k1, k2, k3, k4, k5, k6, t1, v2, v3, v4, t6, hx, hdx⟩, hcs, hcomps⟩ := id hf
  obtain ⟨hok1, hok2, hok3, hok4, hok5⟩ := id hok
  clear up dn X st
  k_unmd
  k_fold
  k_steps
  refine (dc_spec (hi := 0) (lo := 1)).use KX T (by k_asm) (by k_asm) ⟨hf.mono (Fr.keep (by k_asm)), hok⟩ fun r h' tk' tl1 F' N' off1 hp => ?_
  obtain ⟨x1, rfl, xs1, hx1, hs1⟩ := hp
  have hl1 : xs1.length ≤ 7 := hs1.length ▸ dcD_len f hok 0 1
  clear off1
  k_steps
  refine (ac_spec (ps := [0])).use KX T (by k_asm) (by k_asm) ⟨⟨[.int 0 _], isList_LstS (by is_list), .cons _ _ (.nil)⟩, by simp⟩ fun r h' tk' tl2 F' N' off2 hp => ?_
  obtain ⟨x2, rfl, xs2, hx2, hs2⟩ := hp
  have hl2 : xs2.length ≤ 1 := hs2.length ▸ acD_len [0] _ _ _ _
  clear off2
  k_steps
  refine (ac_spec (ps := [2, 1])).use KX T (by k_asm) (by k_asm) ⟨⟨[.int 2 _, .int 1 _], isList_LstS (by is_list), .cons _ _ (.cons _ _ (.nil))⟩, by simp⟩ fun r h' tk' tl3 F' N' off3 hp => ?_
  obtain ⟨x3, rfl, xs3, hx3, hs3⟩ := hp
  have hl3 : xs3.length ≤ 2 := hs3.length ▸ acD_len [2, 1] _ _ _ _
  clear off3
  k_steps
  refine (ac_spec (ps := [0])).use KX T (by k_asm) (by k_asm) ⟨⟨[.int 0 _], isList_LstS (by is_list), .cons _ _ (.nil)⟩, by simp⟩ fun r h' tk' tl4 F' N' off4 hp => ?_
  obtain ⟨x4, rfl, xs4, hx4, hs4⟩ := hp
  have hl4 : xs4.length ≤ 1 := hs4.length ▸ acD_len [0] _ _ _ _
  clear off4
  k_steps
  refine (ac_spec (ps := [0])).use KX T (by k_asm) (by k_asm) ⟨⟨[.int 0 _], isList_LstS (by is_list), .cons _ _ (.nil)⟩, by simp⟩ fun r h' tk' tl5 F' N' off5 hp => ?_
  obtain ⟨x5, rfl, xs5, hx5, hs5⟩ := hp
  have hl5 : xs5.length ≤ 1 := hs5.length ▸ acD_len [0] _ _ _ _
  clear off5
  k_steps
  refine (dc_spec (hi := 1) (lo := 0)).use KX T (by k_asm) (by k_asm) ⟨hf.mono (Fr.keep (by k_asm)), hok⟩ fun r h' tk' tl6 F' N' off6 hp => ?_
  obtain ⟨x6, rfl, xs6, hx6, hs6⟩ := hp
  have hl6 : xs6.length ≤ 7 := hs6.length ▸ dcD_len f hok 1 0
  clear off6
  k_steps
  refine (ac_spec (ps := [2, 1, 0])).use KX T (by k_asm) (by k_asm) ⟨⟨[.int 2 _, .int 1 _, .int 0 _], isList_LstS (by is_list), .cons _ _ (.cons _ _ (.cons _ _ (.nil)))⟩, by simp⟩ fun r h' tk' tl7 F' N' off7 hp => ?_
  obtain ⟨x7, rfl, xs7, hx7, hs7⟩ := hp
  have hl7 : xs7.length ≤ 3 := hs7.length ▸ acD_len [2, 1, 0] _ _ _ _
  clear off7
  k_steps
  rename Fr _ _ _ _ => F9
  rename News _ _ _ _ => N9
  refine hQ _ _ _ _ (stays_of F9 up') (led_of N9 up') ⟨_, rfl, xs1 ++ xs2 ++ xs3 ++ xs4 ++ xs5 ++ xs6 ++ xs7, lstS_of (.head _) (by simp only [List.map_append]), ?_⟩
  exact ((((((scs_sub hs1 (by walk_at "MY_SUB")).append (scs_sub hs2 (by walk_at "MY_SUB"))).append (scs_sub hs3 (by walk_at "MY_SUB"))).append (scs_sub hs4 (by walk_at "MY_SUB"))).append (scs_sub hs5 (by walk_at "MY_SUB"))).append (scs_sub hs6 (by walk_at "MY_SUB"))).append (scs_sub hs7 (by walk_at "MY_SUB"))
end

section
section
variable {prog : Program} {w : World} {A : Around} {E : Value → Shared → Prop} {s : Shared} {g : Heap} {L : Addr} {m : Str → Option Value} {news : List (Addr × Obj)} {Q : Value → Shared → Prop}
theorem range_K {n : Nat} {t : Tok} (F : Fr g L s.heap m) (N : News g L s.heap news) (hn : n < 2 ^ 20)
    (h : ∀ r h' tk t₀ u₀ v₀, Fr g L h' m → News g L h' news → IsRange h' r 0 n 1 t₀ u₀ v₀ → Q (.ref r) { s with heap := h', toks := tk }) : wpAny (model prog w) A (call (.type "range") [.int (n : Int) t]) Q E s :=
  call_range_1 (h _ _ _ _ _ _ (F.push _) (fun p hp => ⟨Heap.get?_push_of_some _ (N p hp).1, (N p hp).2⟩) (IsRange.new _ _ _ _ _ _ _))
theorem list_rangeK {r : Addr} {n : Nat} {t₀ u₀ v₀ : Tok} (F : Fr g L s.heap m) (N : News g L s.heap news) (hr : IsRange s.heap r 0 n 1 t₀ u₀ v₀) (hn : n < 2 ^ 20)
    (h : ∀ D us c h' tk, Fr g L h' m → News g L h' ((D, W.listOf (List.toArray us) c) :: news) → (∀ p ∈ news, p.1 < D) → IntsAre us (rangeKs 0 n) → Q (.ref D) { s with heap := h', toks := tk }) (hh : A.handled = none := by rfl) :
    wpAny (model prog w) A (call (.type "list") [.ref r]) Q E s :=
  kll_range hh F N hr (small_one (by omega) (by omega) (by omega) (by omega)) (by rw [rangeSize_one]; split <;> omega) (by omega) h
end

theorem plain_spec {w : World} {fx : Addr} {f : FrameD} :
    Con 500 500 w 224 [.ref fx] (fun S => FrameS S fx f ∧ FrameOk f) (fun S r => ∃ a, r = .ref a ∧ ScansS S a (plainD f)) := by
  rintro E Q s mg mb h₀ X st ⟨hf, hok⟩ hQ
  k_dflt (refine' enter_def (binds := [(Str.ofString "frame", .ref fx)]) (W := []) X st (fun _ h => nomatch h) ?ho ?hcd ?room ?hb ?hl ?_ ?c2 ?c3 ?c4 ?c5)
  walk_at "MY_ENTER"
  intro g L h₁ F N KX T up dn
  have up' : s.heap.StaysIn g := fun b o e => up b o e (by simp)
  replace hf := hf.mono (S' := At g) up'
  obtain ⟨cs, as, ⟨dx, a1, a2, a3, a4, a5, a6, k1, k2, k3, k4, k5, k6, t1, v2, v3, v4, t6, hx, hdx⟩, hcs, hcomps⟩ := id hf
  have hcl := hcs.isList
  have hal := hcomps.length
  obtain ⟨hok1, hok2, hok3, hok4, hok5⟩ := id hok
  clear up dn X st
  k_unmd
  k_fold
  k_steps
  refine ⟨?_⟩
  refine range_K (n := as.length) (by k_asm) (by k_asm) (by omega) fun r h' tk' t₀ u₀ v₀ F' N' hr => ?_
  k_steps
  refine list_rangeK (by k_asm) (by k_asm) hr (by omega) fun D us c h' tk' F' N' l1 hus => ?_
  rw [hal] at hus
  have hpl : (placesOf f).length = f.comps.length := rangeKs_length _ _
  k_steps
  refine (dc_spec (hi := 0) (lo := 1)).use KX T (by k_asm) (by k_asm) ⟨hf.mono (Fr.keep (by k_asm)), hok⟩ fun r h' tk' tl1 F' N' off1 hp => ?_
  obtain ⟨x1, rfl, xs1, hx1, hs1⟩ := hp
  have hl1 : xs1.length ≤ 7 := hs1.length ▸ dcD_len f hok 0 1
  clear off1
  k_steps
  refine (ac_spec (ps := placesOf f)).use KX T (by k_asm) (by k_asm) ⟨⟨us, isList_LstS (by is_list), hus⟩, by omega⟩ fun r h' tk' tl2 F' N' off2 hp => ?_
  obtain ⟨x2, rfl, xs2, hx2, hs2⟩ := hp
  have hl2 : xs2.length ≤ 6 := Nat.le_trans (hs2.length ▸ acD_len (placesOf f) _ _ _ _) (by omega)
  clear off2
  k_steps
  refine (ac_spec (ps := placesOf f)).use KX T (by k_asm) (by k_asm) ⟨⟨us, isList_LstS (by is_list), hus⟩, by omega⟩ fun r h' tk' tl3 F' N' off3 hp => ?_
  obtain ⟨x3, rfl, xs3, hx3, hs3⟩ := hp
  have hl3 : xs3.length ≤ 6 := Nat.le_trans (hs3.length ▸ acD_len (placesOf f) _ _ _ _) (by omega)
  clear off3
  k_steps
  refine (ac_spec (ps := placesOf f)).use KX T (by k_asm) (by k_asm) ⟨⟨us, isList_LstS (by is_list), hus⟩, by omega⟩ fun r h' tk' tl4 F' N' off4 hp => ?_
  obtain ⟨x4, rfl, xs4, hx4, hs4⟩ := hp
  have hl4 : xs4.length ≤ 6 := Nat.le_trans (hs4.length ▸ acD_len (placesOf f) _ _ _ _) (by omega)
  clear off4
  k_steps
  refine (dc_spec (hi := 1) (lo := 0)).use KX T (by k_asm) (by k_asm) ⟨hf.mono (Fr.keep (by k_asm)), hok⟩ fun r h' tk' tl5 F' N' off5 hp => ?_
  obtain ⟨x5, rfl, xs5, hx5, hs5⟩ := hp
  have hl5 : xs5.length ≤ 7 := hs5.length ▸ dcD_len f hok 1 0
  clear off5
  k_steps
  refine (ac_spec (ps := placesOf f)).use KX T (by k_asm) (by k_asm) ⟨⟨us, isList_LstS (by is_list), hus⟩, by omega⟩ fun r h' tk' tl6 F' N' off6 hp => ?_
  obtain ⟨x6, rfl, xs6, hx6, hs6⟩ := hp
  have hl6 : xs6.length ≤ 6 := Nat.le_trans (hs6.length ▸ acD_len (placesOf f) _ _ _ _) (by omega)
  clear off6
  k_steps
  rename Fr _ _ _ _ => F9
  rename News _ _ _ _ => N9
  refine hQ _ _ _ _ (stays_of F9 up') (led_of N9 up') ⟨_, rfl, xs1 ++ xs2 ++ xs3 ++ xs4 ++ xs5 ++ xs6, lstS_of (.head _) (by simp only [List.map_append]), ?_⟩
  exact (((((scs_sub hs1 (by walk_at "MY_SUB")).append (scs_sub hs2 (by walk_at "MY_SUB"))).append (scs_sub hs3 (by walk_at "MY_SUB"))).append (scs_sub hs4 (by walk_at "MY_SUB"))).append (scs_sub hs5 (by walk_at "MY_SUB"))).append (scs_sub hs6 (by walk_at "MY_SUB"))

def progD (f : FrameD) : List ScanD := if f.comps.length = 3 then colourD f else plainD f
theorem prog_spec {w : World} {fx : Addr} {f : FrameD} :
    Con 490 490 w 231 [.ref fx] (fun S => FrameS S fx f ∧ FrameOk f) (fun S r => ∃ a, r = .ref a ∧ ScansS S a (progD f)) := by
  rintro E Q s mg mb h₀ X st ⟨hf, hok⟩ hQ
  k_dflt (refine' enter_def (binds := [(Str.ofString "frame", .ref fx)]) (W := []) X st (fun _ h => nomatch h) ?ho ?hcd ?room ?hb ?hl ?_ ?c2 ?c3 ?c4 ?c5)
  walk_at "MY_ENTER"
  intro g L h₁ F N KX T up dn
  have up' : s.heap.StaysIn g := fun b o e => up b o e (by simp)
  replace hf := hf.mono (S' := At g) up'
  obtain ⟨cs, as, ⟨dx, a1, a2, a3, a4, a5, a6, k1, k2, k3, k4, k5, k6, t1, v2, v3, v4, t6, hx, hdx⟩, hcs, hcomps⟩ := id hf
  have hcl := hcs.isList
  have hal := hcomps.length
  obtain ⟨hok1, hok2, hok3, hok4, hok5⟩ := id hok
  clear up dn X st
  k_unmd
  k_fold
  k_steps
  · refine colour_spec.use KX T (by k_asm) (by k_asm) ⟨hf.mono (Fr.keep (by k_asm)), hok⟩ fun r h' tk' tl F' N' off hp => ?_
    obtain ⟨x, rfl, hx⟩ := hp
    k_steps
    rename Fr _ _ _ _ => F9
    rename News _ _ _ _ => N9
    refine hQ _ _ _ _ (stays_of F9 up') (led_of N9 up') ⟨_, rfl, ?_⟩
    rw [progD, if_pos (by omega)]
    exact hx.mono fun _ _ h => List.mem_append_left _ h
  · refine plain_spec.use KX T (by k_asm) (by k_asm) ⟨hf.mono (Fr.keep (by k_asm)), hok⟩ fun r h' tk' tl F' N' off hp => ?_
    obtain ⟨x, rfl, hx⟩ := hp
    k_steps
    rename Fr _ _ _ _ => F9
    rename News _ _ _ _ => N9
    refine hQ _ _ _ _ (stays_of F9 up') (led_of N9 up') ⟨_, rfl, ?_⟩
    rw [progD, if_neg (by omega)]
    exact hx.mono fun _ _ h => List.mem_append_left _ h
end

section
theorem held_post {α : Type} {M : Model} {A : Around} {t : Sem α} {Q : α → Shared → Prop} {E : Value → Shared → Prop} {s : Shared} (h : wpAny M A t (fun v s' => Held (Q v s')) E s) : wpAny M A t Q E s :=
  wpAny_mono h (fun _ _ h => h.out) fun _ _ h => h

def msAt (f : FrameD) (p : Int) : Int := f.ms.getD p.toNat 0
def sumMs (f : FrameD) (ps : List Int) : Int := (ps.map (msAt f)).sum
def InF (f : FrameD) (ps : List Int) : Prop := ∀ p ∈ ps, 0 ≤ p ∧ p < f.comps.length

theorem lblocks_spec {w : World} {fx pl : Addr} {f : FrameD} {ps : List Int} :
    Con 480 480 w 358 [.ref fx, .ref pl] (fun S => FrameS S fx f ∧ FrameOk f ∧ IntsS S pl ps ∧ InF f ps ∧ ps.length ≤ 100) (fun S r => ∃ t, r = .int (sumMs f ps) t) := by
  rintro E Q s mg mb h₀ X st ⟨hf, hok, hp, hin, hlen⟩ hQ
  k_dflt (refine' enter_cells (binds := [(Str.ofString "frame", .ref fx), (Str.ofString "places", .ref pl)]) (W := []) X st (fun _ h => nomatch h) ?ho ?hcd ?room ?hb ?hkd ?hnd ?_ ?c2 ?c3 ?c4)
  walk_at "MY_CELLS"
  intro g L h₁ tk cells F N Y KX T up dn
  k_cells Y
  rename_i o1 d1
  replace d1 : o1.data = .cell (some (.ref fx)) := d1
  simp only [List.cons_append, List.nil_append] at N
  have up' : s.heap.StaysIn g := fun b o e => up b o e (by simp)
  replace hf := hf.mono (S' := At g) up'
  obtain ⟨vs, hpl, hvs⟩ := hp.mono (S' := At g) up'
  replace hpl := hpl.isList
  obtain ⟨cs, as, ⟨dx, a1, a2, a3, a4, a5, a6, k1, k2, k3, k4, k5, k6, t1, v2, v3, v4, t6, hx, hdx⟩, hcs, hcomps⟩ := id hf
  have hcl := hcs.isList
  have hal := hcomps.length
  obtain ⟨hok1, hok2, hok3, hok4, hok5⟩ := id hok
  clear up dn X st hp
  k_unmd
  k_fold
  k_steps
  refine ⟨?_⟩
  rename Fr _ _ _ _ => F9
  rename News _ _ _ _ => N9
  k_dflt (refine' comp_eval F9 rfl ?clo ?cell ?kind ?nm ?x ?_)
  walk_at "MY_COMP"
  k_steps
  refine CompAt.base (MapI (msAt f)) hpl (intV_of hvs) (by k_asm) (by k_asm) (by rw [hvs.length, sizeLine_eq]; omega) (fun C => ?elt) (fun D h' tk ys made n F' N' oD mN hB => ?fin)
  case elt =>
    clear F9 N9
    intro s' v p oC rest mC hps hv _ F N sub nsC hm
    obtain ⟨t, rfl⟩ := hv
    have m1 := sub _ (List.Mem.head _)
    obtain ⟨p0, p1⟩ := hin p hps
    have hci : f.comps[p.toNat]? = some (f.comps[p.toNat]'(by omega)) := List.getElem?_eq_getElem (by omega)
    obtain ⟨a, ha, da, b1, b2, b3, b4, l1, l2, l3, l4, w1, w4, u2, u3, hax, hadx⟩ := hcomps.get hci
    obtain ⟨c1, c2, c3, c4⟩ := hok3 _ (List.mem_of_getElem? hci)
    have hms : msAt f p = f.comps[p.toNat].1 * f.comps[p.toNat].2 := by simp [msAt, FrameD.ms, hci]
    refine held_post ?_
    k_steps
    exact ⟨_, _, [], rfl, F, N, (fun _ h => nomatch h), _, by rw [hms]⟩
  case fin =>
    clear F9 N9
    have hyi := hB.ints
    have hyl := hB.length
    k_steps
    rename Fr _ _ _ _ => F9
    rename News _ _ _ _ => N9
    exact hQ _ _ _ _ (stays_of F9 up') (led_of N9 up') ⟨_, rfl⟩

theorem alone_spec {w : World} {sx : Addr} {c : ScanD} :
    Con 500 500 w 74 [.ref sx] (fun S => ScanS S sx c ∧ c.places.length ≤ 100) (fun S r => r = .bool (decide (c.places.length = 1))) := by
  rintro E Q s mg mb h₀ X st ⟨hs, hlen⟩ hQ
  k_dflt (refine' enter_def (binds := [(Str.ofString "self", .ref sx)]) (W := []) X st (fun _ h => nomatch h) ?ho ?hcd ?room ?hb ?hl ?_ ?c2 ?c3 ?c4 ?c5)
  walk_at "MY_ENTER"
  intro g L h₁ F N KX T up dn
  have up' : s.heap.StaysIn g := fun b o e => up b o e (by simp)
  obtain ⟨pl, dc, ac, ⟨sd, e1, e2, e3, e4, e5, e6, e7, q1, q2, q3, q4, q5, q6, q7, u4, u5, u6, u7, hsx, hsd⟩, ⟨vs, hpl, hvs⟩, -, -⟩ := hs.mono (S' := At g) up'
  replace hpl := hpl.isList
  have hvl := hvs.length
  clear up dn X st hs
  k_unmd
  k_fold
  k_steps
  rename Fr _ _ _ _ => F9
  rename News _ _ _ _ => N9
  refine hQ _ _ _ _ (stays_of F9 up') (led_of N9 up') ?_
  congr 1
  rw [Bool.eq_iff_iff]; simp; omega

/-- what a call of a scan's blocks gives -/
def blocksD (f : FrameD) (ps : List Int) : Int := if ps.length = 1 then 1 else sumMs f ps
theorem blocks_spec {w : World} {fx sx : Addr} {f : FrameD} {c : ScanD} :
    Con 480 480 w 94 [.ref fx, .ref sx] (fun S => FrameS S fx f ∧ FrameOk f ∧ ScanS S sx c ∧ InF f c.places ∧ c.places.length ≤ 100) (fun S r => ∃ t, r = .int (blocksD f c.places) t) := by
  rintro E Q s mg mb h₀ X st ⟨hf, hok, hs, hin, hlen⟩ hQ
  k_dflt (refine' enter_cells (binds := [(Str.ofString "frame", .ref fx), (Str.ofString "scan", .ref sx)]) (W := []) X st (fun _ h => nomatch h) ?ho ?hcd ?room ?hb ?hkd ?hnd ?_ ?c2 ?c3 ?c4)
  walk_at "MY_CELLS"
  intro g L h₁ tk cells F N Y KX T up dn
  k_cells Y
  rename_i o1 d1
  replace d1 : o1.data = .cell (some (.ref fx)) := d1
  simp only [List.cons_append, List.nil_append] at N
  have up' : s.heap.StaysIn g := fun b o e => up b o e (by simp)
  replace hf := hf.mono (S' := At g) up'
  replace hs := hs.mono (S' := At g) up'
  obtain ⟨pl, dc, ac, ⟨sd, e1, e2, e3, e4, e5, e6, e7, q1, q2, q3, q4, q5, q6, q7, u4, u5, u6, u7, hsx, hsd⟩, ⟨vs, hpl, hvs⟩, -, -⟩ := id hs
  replace hpl := hpl.isList
  have hvl := hvs.length
  obtain ⟨cs, as, ⟨dx, a1, a2, a3, a4, a5, a6, k1, k2, k3, k4, k5, k6, t1, v2, v3, v4, t6, hx, hdx⟩, hcs, hcomps⟩ := id hf
  have hcl := hcs.isList
  have hal := hcomps.length
  obtain ⟨hok1, hok2, hok3, hok4, hok5⟩ := id hok
  clear up dn X st
  k_unmd
  k_fold
  k_steps
  show wpAny _ _ (call (.ref 74) [.ref sx]) _ _ _
  refine alone_spec.use KX T (by k_asm) (by k_asm) ⟨hs.mono (Fr.keep (by k_asm)), hlen⟩ fun r h' tk' tl F' N' off hp => ?_
  subst hp
  k_steps
  · try dsimp only
    rename Fr _ _ _ _ => F9
    rename News _ _ _ _ => N9
    exact hQ _ _ _ _ (stays_of F9 up') (led_of N9 up') ⟨_, by rw [blocksD, if_pos (by assumption)]⟩
  · refine ⟨?_⟩
    rename Fr _ _ _ _ => F9
    rename News _ _ _ _ => N9
    k_dflt (refine' comp_eval F9 rfl ?clo ?cell ?kind ?nm ?x ?_)
    walk_at "MY_COMP"
    k_steps
    refine CompAt.base (MapI (msAt f)) hpl (intV_of hvs) (by k_asm) (by k_asm) (by rw [hvs.length, sizeLine_eq]; omega) (fun C => ?elt) (fun D h' tk ys made n F' N' oD mN hB => ?fin)
    case elt =>
      clear F9 N9
      intro s' v p oC rest mC hps hv _ F N sub nsC hm
      obtain ⟨t, rfl⟩ := hv
      have m1 := sub _ (List.mem_append_right _ (List.Mem.head _))
      obtain ⟨p0, p1⟩ := hin p hps
      have hci : f.comps[p.toNat]? = some (f.comps[p.toNat]'(by omega)) := List.getElem?_eq_getElem (by omega)
      obtain ⟨a, ha, da, b1, b2, b3, b4, l1, l2, l3, l4, w1, w4, u2, u3, hax, hadx⟩ := hcomps.get hci
      obtain ⟨c1, c2, c3, c4⟩ := hok3 _ (List.mem_of_getElem? hci)
      have hms : msAt f p = f.comps[p.toNat].1 * f.comps[p.toNat].2 := by simp [msAt, FrameD.ms, hci]
      refine held_post ?_
      k_steps
      exact ⟨_, _, [], rfl, F, N, (fun _ h => nomatch h), _, by rw [hms]⟩
    case fin =>
      clear F9 N9
      have hyi := hB.ints
      have hyl := hB.length
      k_steps
      rename Fr _ _ _ _ => F9
      rename News _ _ _ _ => N9
      exact hQ _ _ _ _ (stays_of F9 up') (led_of N9 up') ⟨_, by rw [blocksD, if_neg (by assumption)]; rfl⟩
end

section
theorem ints_get {vs : List Value} {ns : List Int} (h : IntsAre vs ns) {i : Nat} {v : Value} (hv : vs[i]? = some v) : ∃ p t, v = .int p t ∧ ns[i]? = some p := by
  induction h generalizing i with
  | nil => cases hv
  | cons n t _ ih =>
    cases i with
    | zero => exact ⟨n, t, (Option.some.inj hv).symm, rfl⟩
    | succ i => exact ih (by simpa using hv)

def aheadAt (ps : List Int) (i : Nat) : Int := if i = 0 then -1 else ps.getD (i - 1) 0
def PlacesOk (f : FrameD) (ps : List Int) : Prop := 1 ≤ ps.length ∧ ps.length ≤ 4 ∧ InF f ps ∧ (∀ i p, ps[i]? = some p → aheadAt ps i < p) ∧ blocksD f ps ≤ 10

theorem places_spec {w : World} {fx sx : Addr} {f : FrameD} {c : ScanD} :
    Con 470 470 w 101 [.ref fx, .ref sx] (fun S => FrameS S fx f ∧ FrameOk f ∧ ScanS S sx c ∧ PlacesOk f c.places) (fun S r => r = .none) := by
  rintro E Q s mg mb h₀ X st ⟨hf, hok, hs, hpo⟩ hQ
  k_dflt (refine' enter_def (binds := [(Str.ofString "frame", .ref fx), (Str.ofString "scan", .ref sx)]) (W := []) X st (fun _ h => nomatch h) ?ho ?hcd ?room ?hb ?hl ?_ ?c2 ?c3 ?c4 ?c5)
  walk_at "MY_ENTER"
  intro g L h₁ F N KX T up dn
  have up' : s.heap.StaysIn g := fun b o e => up b o e (by simp)
  replace hf := hf.mono (S' := At g) up'
  replace hs := hs.mono (S' := At g) up'
  obtain ⟨pl, dc, ac, ⟨sd, e1, e2, e3, e4, e5, e6, e7, q1, q2, q3, q4, q5, q6, q7, u4, u5, u6, u7, hsx, hsd⟩, ⟨vs, hpl, hvs⟩, -, -⟩ := id hs
  replace hpl := hpl.isList
  have hvl := hvs.length
  obtain ⟨cs, as, ⟨dx, a1, a2, a3, a4, a5, a6, k1, k2, k3, k4, k5, k6, t1, v2, v3, v4, t6, hx, hdx⟩, hcs, hcomps⟩ := id hf
  have hcl := hcs.isList
  have hal := hcomps.length
  obtain ⟨hok1, hok2, hok3, hok4, hok5⟩ := id hok
  obtain ⟨hp1, hp2, hp3, hp4, hp5⟩ := id hpo
  clear up dn X st
  k_unmd
  k_fold
  k_steps
  refine ⟨?_⟩
  refine For_invV g rfl rfl (held_post ?_) (hE := PassesOwn.never)
  k_steps
  refine ⟨?_⟩
  rename Fr _ _ _ _ => F9
  rename News _ _ _ _ => N9
  refine iter_listV (fun m₀ i m nx => nx = [] ∧ ∃ t, Keep1 ["place"] "ahead" (.int (aheadAt c.places i) t) m₀ m) rfl hpl F9 N9 ?start ?turn ?done
  case start => exact ⟨rfl, _, Keep1.of rfl fun _ _ _ => rfl⟩
  case turn =>
    clear F9 N9
    rintro i v m₁ nx h tk I oI hv hI ⟨rfl, t, u, rfl⟩ F N
    obtain ⟨p, tp, rfl, hpi⟩ := ints_get hvs hv
    obtain ⟨hin1, hin2⟩ := hp3 p (List.mem_of_getElem? hpi)
    have hlt := hp4 i p hpi
    have hnx : aheadAt c.places (i + 1) = p := by simp [aheadAt, List.getD, hpi]
    k_steps
    rename Fr _ _ _ _ => F9
    rename News _ _ _ _ => N9
    refine ⟨_, _, _, [], rfl, F9, N9, (fun _ h => nomatch h), rfl, tp, Keep1.of (by rw [hnx]; rfl) fun z hz z1 => ?_⟩
    simp only [List.contains_cons, List.contains_nil, Bool.or_false, Bool.or_eq_false_iff, beq_eq_false_iff_ne] at hz
    simp [hz, z1]
  case done =>
    clear F9 N9
    rintro m₁ nx h tk ⟨rfl, t, u, rfl⟩ F N
    k_steps
    refine blocks_spec.use KX T (by k_asm) (by k_asm) ⟨hf.mono (Fr.keep (by k_asm)), hok, hs.mono (Fr.keep (by k_asm)), hp3, by omega⟩ fun r h' tk' tl F' N' off hp => ?_
    obtain ⟨t', rfl⟩ := hp
    k_steps
    try dsimp only
    rename Fr _ _ _ _ => F9
    rename News _ _ _ _ => N9
    exact hQ _ _ _ _ (stays_of F9 up') (led_of N9 up') rfl

section
variable {prog : Program} {w : World} {A : Around} {E : Value → Shared → Prop} {s : Shared} {env : Env} {h₀ : Heap} {x : Str} {body : List Stmt} {Q : Flow → Shared → Prop}
theorem turn_ofN {L I l : Addr} {oI lo : Obj} {J : (Str → Option Value) → List (Addr × Obj) → Prop} {s₁ s₃ : Shared} {own : List (Addr × Obj)} {f : Flow} (hs : ∀ p ∈ own, p = (I, oI) ∨ p = (l, lo)) (hJ : ∀ m nx, J m nx → (l, lo) ∈ nx)
    (h : TurnPost h₀ L I oI J s₁ Q f s₃) : LoopStepV h₀ L [I] own J s₁ (fun v s' => Q (.ret v) s') (fun s' => Q .next s') f s₃ := by
  have fin : (∃ h' tk m' nx, s₃ = { s₁ with heap := h', toks := tk } ∧ Fr h₀ L h' m' ∧ News h₀ L h' ((I, oI) :: nx) ∧ (∀ p ∈ nx, p.1 ≠ I) ∧ J m' nx) → LoopStepU h₀ L [I] own J s₁ .next s₃ := by
    rintro ⟨h', tk, m', nx, e, F', N', hn, hj⟩
    refine ⟨rfl, h', tk, m', nx, e, F', fun p hp => ?_, fun p hp hq => hn p hp (List.mem_singleton.mp hq), hj⟩
    rcases List.mem_append.mp hp with hp | hp
    · rcases hs p hp with rfl | rfl
      · exact N' _ (.head _)
      · exact N' _ (.tail _ (hJ _ _ hj))
    · exact N' p (.tail _ hp)
  cases f with
  | ret v => exact .ret h
  | brk => exact .brk h
  | next => exact .next (fin h)
  | cont => exact .cont (fin h)
theorem iter_listN {l : Addr} {lo : Obj} {k : Nat} {vs : List Value} {m₀ : Str → Option Value} {news : List (Addr × Obj)} (J : (Str → Option Value) → Nat → (Str → Option Value) → List (Addr × Obj) → Prop)
    (hh : A.handled = none) (hlc : lo.cls = .type "list") (hld : lo.data = .seq vs.toArray k) (F : Fr h₀ env.locals s.heap m₀) (N : News h₀ env.locals s.heap news) (hj : J m₀ 0 m₀ news) (hJl : ∀ i m nx, J m₀ i m nx → (l, lo) ∈ nx)
    (turn : ∀ i v m₁ nx h tk I oI, vs[i]? = some v → (∀ p ∈ nx, p.1 ≠ I) → J m₀ i m₁ nx → Fr h₀ env.locals h (fun y => if y = x then some v else m₁ y) → News h₀ env.locals h ((I, oI) :: nx) →
      wpAny (model prog w) A (execs body env) (TurnPost h₀ env.locals I oI (J m₀ (i + 1)) { s with heap := h, toks := tk } Q) E { s with heap := h, toks := tk })
    (done : ∀ m₁ nx h tk, J m₀ vs.length m₁ nx → Fr h₀ env.locals h m₁ → News h₀ env.locals h nx → Q .next { s with heap := h, toks := tk }) :
    wpAny (model prog w) A (pyIter (.ref l)) (fun it s₂ => LoopAtV prog w A h₀ env x body Q E it s₂) E s := by
  have hml := hJl _ _ _ hj
  have hll := N _ hml
  have hls : s.heap.IsList l vs.toArray := ⟨lo, hll.1, hlc, k, hld⟩
  have hlt : l < s.heap.objs.size := Heap.lt_size hll.1
  have hne : l ≠ s.heap.objs.size := Nat.ne_of_lt hlt
  refine wpAny_pyIter_list hls ?_
  have W := Walks.list (prog := prog) (w := w) hh s.heap.objs.size l hne vs.toArray
  refine ⟨_, _, _, vs.toArray.size, _, _, m₀, news, J m₀, rfl, W, ?_, ?_, ?_, ⟨⟨_, Heap.get?_push_size _ rfl, rfl, rfl⟩, hls.at fun o e => Heap.get?_push_of_some _ e⟩, F.push _, (fun p hp => ⟨Heap.get?_push_of_some _ (N p hp).1, (N p hp).2⟩), hj, ?_, ?_⟩
  · intro hm
    rcases List.mem_cons.mp hm with e | hm
    · exact absurd F.ns.lt (e ▸ Nat.lt_irrefl _)
    · exact hll.2.1 (List.mem_singleton.mp hm).symm
  · intro b hb
    rw [List.mem_singleton.mp hb]
    exact next_is_new F
  · intro p hp hI
    exact absurd (Heap.lt_size (N p hp).1) ((List.mem_singleton.mp hI) ▸ Nat.lt_irrefl _)
  · rintro i v m₁ news₁ s₁ own ⟨hh', tk', rfl⟩ hin hP hJ hoff hown hget hmem hst F₁ N₁
    obtain ⟨⟨oi, hoi, _⟩, _⟩ := hst
    have hI : (s.heap.objs.size, oi) ∈ own := hmem _ (.head _) (next_is_new F) oi hoi
    have hml₁ := hJl _ _ _ hJ
    have hs : ∀ p ∈ own, p = (s.heap.objs.size, oi) ∨ p = (l, lo) := fun p hp => by
      obtain ⟨p1, p2⟩ := p
      have h2 := hget _ hp
      rcases List.mem_cons.mp (hown _ hp) with h1 | h1
      · simp only at h1 h2
        subst h1
        rw [hoi] at h2
        rw [← Option.some.inj h2]; exact .inl rfl
      · have h1 := List.mem_singleton.mp h1
        simp only at h1 h2
        subst h1
        rw [(N₁ _ (List.mem_append_right _ hml₁)).1] at h2
        rw [← Option.some.inj h2]; exact .inr rfl
    refine wpAny_mono (turn i v m₁ news₁ hh' tk' _ oi (by simpa using hP) (fun p hp e => hoff p hp (by rw [e]; exact .head _)) hJ F₁ (fun p hp => ?_)) (fun f s₂ h => turn_ofN hs (hJl _) h) fun _ _ e => e
    rcases List.mem_cons.mp hp with rfl | hp
    · exact N₁ _ (List.mem_append_left _ hI)
    · exact N₁ p (List.mem_append_right _ hp)
  · rintro h' tk m' news' F' N' _ hJ
    exact done m' news' h' tk (by simpa using hJ) F' N'
end

def SlotsOk (c : ScanD) : Prop := c.places.length ≤ 4 ∧ c.dc.length = c.places.length ∧ c.ac.length = c.places.length ∧ (∀ x ∈ c.dc ++ c.ac, 0 ≤ x ∧ x ≤ 1)
def KindOk (k : String) : Prop := k = "baseline" ∨ k = "progressive" ∨ k = "extended"

theorem slots_spec {w : World} {fx sx : Addr} {f : FrameD} {c : ScanD} :
    Con 470 470 w 108 [.ref fx, .ref sx] (fun S => FrameS S fx f ∧ ScanS S sx c ∧ SlotsOk c) (fun S r => r = .none) := by
  rintro E Q s mg mb h₀ X st ⟨hf, hs, hso⟩ hQ
  k_dflt (refine' enter_def (binds := [(Str.ofString "frame", .ref fx), (Str.ofString "scan", .ref sx)]) (W := []) X st (fun _ h => nomatch h) ?ho ?hcd ?room ?hb ?hl ?_ ?c2 ?c3 ?c4 ?c5)
  walk_at "MY_ENTER"
  intro g L h₁ F N KX T up dn
  have up' : s.heap.StaysIn g := fun b o e => up b o e (by simp)
  replace hf := hf.mono (S' := At g) up'
  replace hs := hs.mono (S' := At g) up'
  obtain ⟨pl, dc, ac, ⟨sd, e1, e2, e3, e4, e5, e6, e7, q1, q2, q3, q4, q5, q6, q7, u4, u5, u6, u7, hsx, hsd⟩, ⟨vs, hpl, hvs⟩, ⟨vd, hdl, hvd⟩, ⟨va, hal, hva⟩⟩ := id hs
  replace hpl := hpl.isList
  replace hdl := hdl.isList
  replace hal := hal.isList
  have hvl := hvs.length
  have hvdl := hvd.length
  have hval := hva.length
  obtain ⟨cs, as, ⟨dx, a1, a2, a3, a4, a5, a6, k1, k2, k3, k4, k5, k6, t1, v2, v3, v4, t6, hx, hdx⟩, hcs, hcomps⟩ := id hf
  obtain ⟨hs1, hs2, hs3, hs4⟩ := id hso
  clear up dn X st
  k_unmd
  k_fold
  k_steps
  all_goals try (exfalso; omega)
  all_goals (
    refine ⟨?_⟩
    refine For_invV g rfl rfl (held_post ?_) (hE := PassesOwn.never)
    k_steps
    refine ⟨?_⟩
    rename_i l9 h9 F9 N9 l19
    refine iter_listN (l := l9) (lo := W.listOf (vd ++ va).toArray 0) (k := 0) (vs := vd ++ va) (fun m₀ i m nx => nx = [(l9, W.listOf (vd ++ va).toArray 0)] ∧ Keep ["slot"] m₀ m) rfl rfl rfl F9 (news_sub N9 fun p hp => by rw [List.mem_singleton.mp hp]; exact .head _) ?start ?hJl ?turn ?done
    case start => exact ⟨rfl, Keep.refl _ _⟩
    case hJl => rintro i m nx ⟨rfl, -⟩; exact .head _
    case turn =>
      clear F9 N9
      rintro i v m₁ nx h tk I oI hv hI ⟨rfl, u, rfl⟩ F N
      obtain ⟨p, tp, rfl, hpi⟩ := ints_get (hvd.append hva) hv
      obtain ⟨hin1, hin2⟩ := hs4 p (List.mem_of_getElem? hpi)
      k_steps
      rename Fr _ _ _ _ => F9
      rename News _ _ _ _ => N9
      refine ⟨_, _, _, [(l9, W.listOf (vd ++ va).toArray 0)], rfl, F9, N9, hI, rfl, Keep.of fun z hz => ?_⟩
      simp only [List.contains_cons, List.contains_nil, Bool.or_false, Bool.or_eq_false_iff, beq_eq_false_iff_ne] at hz
      simp [hz]
    case done =>
      clear F9 N9
      rintro m₁ nx h tk ⟨rfl, u, rfl⟩ F N
      k_steps
      try dsimp only
      rename Fr _ _ _ _ => F9
      rename News _ _ _ _ => N9
      exact hQ _ _ _ _ (stays_of F9 up') (led_of N9 up') rfl)
end

section
def BandP (c : ScanD) (last : Int) : Prop := c.places.length ≤ 4 ∧ 0 ≤ c.start ∧ c.start ≤ c.stop ∧ c.stop ≤ last ∧ (c.start = 0 → c.stop = 0) ∧ (c.start ≠ 0 → c.places.length = 1) ∧ 0 ≤ c.low ∧ c.low ≤ 13 ∧ (c.high = 0 ∨ c.high = c.low + 1)
theorem pband_spec {w : World} {sx : Addr} {c : ScanD} {last : Int} {t : Tok} :
    Con 460 460 w 122 [.ref sx, .int last t] (fun S => ScanS S sx c ∧ BandP c last ∧ last < 100) (fun _ r => r = .none) := by
  rintro E Q s mg mb h₀ X st ⟨hs, hb, hlast⟩ hQ
  k_dflt (refine' enter_def (binds := [(Str.ofString "scan", .ref sx), (Str.ofString "last", .int last t)]) (W := []) X st (fun _ h => nomatch h) ?ho ?hcd ?room ?hb ?hl ?_ ?c2 ?c3 ?c4 ?c5)
  walk_at "MY_ENTER"
  intro g L h₁ F N KX T up dn
  have up' : s.heap.StaysIn g := fun b o e => up b o e (by simp)
  replace hs := hs.mono (S' := At g) up'
  obtain ⟨pl, dc, ac, ⟨sd, e1, e2, e3, e4, e5, e6, e7, q1, q2, q3, q4, q5, q6, q7, u4, u5, u6, u7, hsx, hsd⟩, -⟩ := id hs
  obtain ⟨b0, b1, b2, b3, b4, b5, b6, b7, b8⟩ := id hb
  clear up dn X st
  k_unmd
  k_fold
  k_steps
  all_goals try (exfalso; omega)
  rotate_right
  · show wpAny _ _ (call (.ref 74) [.ref sx]) _ _ _
    refine alone_spec.use KX T (by k_asm) (by k_asm) ⟨hs.mono (Fr.keep (by k_asm)), by omega⟩ fun r h' tk' tl F' N' off hp => ?_
    subst hp
    rw [decide_eq_true (b5 (by assumption))]
    k_steps
    all_goals try (exfalso; omega)
    all_goals (
      rename Fr _ _ _ _ => F9
      rename News _ _ _ _ => N9
      exact hQ _ _ _ _ (stays_of F9 up') (led_of N9 up') rfl)
  all_goals (
    rename Fr _ _ _ _ => F9
    rename News _ _ _ _ => N9
    exact hQ _ _ _ _ (stays_of F9 up') (led_of N9 up') rfl)

theorem in_tupK {w : World} {A : Around} {E : Value → Shared → Prop} {s : Shared} {g : Heap} {L a : Addr} {m : Str → Option Value} {K : Frag} {d : Option Addr} {items : List Value} {n : Nat} {sl : Array (Option Value)} {ys : List Str} {x : Str} {u : Tok} {Q : Value → Shared → Prop}
    (X : K.In g) (F : Fr g L s.heap m) (ho : K.lookup a = some ⟨.type "tuple", d, .seq items.toArray n, sl⟩) (hi : StrsAre items ys) (b : Bool) (hb : ys.any (· == x) = b) (h : Q (.bool b) s) :
    wpAny (model PR w) A (compareOp .In (.str x u) (.ref a)) Q E s :=
  in_tuple_strs (ys := ys) ⟨_, F.keep _ _ (X _ _ ho), rfl, n, rfl⟩ (by simpa using hi) (hb ▸ h)
def BandOk (f : FrameD) (c : ScanD) : Prop :=
  if f.kind = "progressive" then BandP c (f.n * f.n - 1) else c.start = 0 ∧ c.stop = f.n * f.n - 1 ∧ c.high = 0 ∧ c.low = 0
theorem band_spec {w : World} {fx sx : Addr} {f : FrameD} {c : ScanD} :
    Con 450 450 w 115 [.ref fx, .ref sx] (fun S => FrameS S fx f ∧ FrameOk f ∧ KindOk f.kind ∧ ScanS S sx c ∧ BandOk f c) (fun _ r => r = .none) := by
  rintro E Q s mg mb h₀ X st ⟨hf, hok, hkd, hs, hb⟩ hQ
  k_dflt (refine' enter_def (binds := [(Str.ofString "frame", .ref fx), (Str.ofString "scan", .ref sx)]) (W := []) X st (fun _ h => nomatch h) ?ho ?hcd ?room ?hb ?hl ?_ ?c2 ?c3 ?c4 ?c5)
  walk_at "MY_ENTER"
  intro g L h₁ F N KX T up dn
  have up' : s.heap.StaysIn g := fun b o e => up b o e (by simp)
  replace hf := hf.mono (S' := At g) up'
  replace hs := hs.mono (S' := At g) up'
  obtain ⟨pl, dc, ac, ⟨sd, e1, e2, e3, e4, e5, e6, e7, q1, q2, q3, q4, q5, q6, q7, u4, u5, u6, u7, hsx, hsd⟩, -⟩ := id hs
  obtain ⟨cs, as, ⟨dx, a1, a2, a3, a4, a5, a6, k1, k2, k3, k4, k5, k6, t1, v2, v3, v4, t6, hx, hdx⟩, hcs, hcomps⟩ := id hf
  obtain ⟨hok1, hok2, hok3, hok4, hok5⟩ := id hok
  clear up dn X st
  obtain ⟨kd, comps, n⟩ := f
  dsimp only at *
  rcases hkd with rfl | rfl | rfl
  all_goals (
    k_unmd
    k_fold
    k_steps)
  · obtain ⟨s1, s2, s3, s4⟩ : c.start = 0 ∧ c.stop = n * n - 1 ∧ c.high = 0 ∧ c.low = 0 := by simpa [BandOk] using hb
    refine' in_tupK (ys := ["progressive", "arith progressive"]) KX ?qF1 ?qo1 ?qi1 false (by decide +kernel) ?_
    case qF1 => k_asm
    case qo1 => k_is
    case qi1 => exact .cons _ _ (.cons _ _ .nil)
    k_steps
    all_goals try (exfalso; omega)
    all_goals (
      rename Fr _ _ _ _ => F9
      rename News _ _ _ _ => N9
      exact hQ _ _ _ _ (stays_of F9 up') (led_of N9 up') rfl)
  · refine' in_tupK (ys := ["progressive", "arith progressive"]) KX ?qF2 ?qo2 ?qi2 true (by decide +kernel) ?_
    case qF2 => k_asm
    case qo2 => k_is
    case qi2 => exact .cons _ _ (.cons _ _ .nil)
    k_steps
    have hnn : n * n ≤ 64 := Int.le_trans (Int.mul_le_mul hok5 hok5 (by omega) (by omega)) (by decide)
    refine pband_spec.use KX T (by k_asm) (by k_asm) ⟨hs.mono (Fr.keep (by k_asm)), by simpa [BandOk] using hb, by omega⟩ fun r h' tk' tl F' N' off hp => ?_
    subst hp
    k_steps
    rename Fr _ _ _ _ => F9
    rename News _ _ _ _ => N9
    exact hQ _ _ _ _ (stays_of F9 up') (led_of N9 up') rfl
  · obtain ⟨s1, s2, s3, s4⟩ : c.start = 0 ∧ c.stop = n * n - 1 ∧ c.high = 0 ∧ c.low = 0 := by simpa [BandOk] using hb
    refine' in_tupK (ys := ["progressive", "arith progressive"]) KX ?qF3 ?qo3 ?qi3 false (by decide +kernel) ?_
    case qF3 => k_asm
    case qo3 => k_is
    case qi3 => exact .cons _ _ (.cons _ _ .nil)
    k_steps
    all_goals try (exfalso; omega)
    all_goals (
      rename Fr _ _ _ _ => F9
      rename News _ _ _ _ => N9
      exact hQ _ _ _ _ (stays_of F9 up') (led_of N9 up') rfl)
end

section
open PySem.Spec in
theorem enter_codeC {prog : Program} {w : World} {d u : Nat} {R : Result → Shared → Prop} {s : Shared} {K : Frag} {mg mb : Str → Option Value} {h₀ : Heap}
    {name qual : Str} {params : Arguments} {body : List Stmt} {scope : Scope} {dV kV doc pm cdv ct oc : Value} {an od : Option Addr} {osl : Array (Option Value)} {f : Addr} {args : List Value} {binds : List (Str × Value)}
    (X : Amb K mg mb h₀) (st : h₀.StaysIn s.heap) (W : List (Addr × Obj)) (hW : ∀ p ∈ W, s.heap.get? p.1 = some p.2 ∧ h₀.get? p.1 = none)
    (ho : K.lookup f = some ⟨oc, od, .func (fnOf name qual params body scope dV kV doc pm an cdv ct), osl⟩) (hcd : codeIn K cdv qual = true) (hroom : d < recursionLimit)
    (hbind : BindsTo s (fnOf name qual params body scope dV kV doc pm an cdv ct) ⟨args, []⟩ binds)
    (hkind : (binds.all fun y => scope.names.lookup y.1 == some .local || scope.names.lookup y.1 == some .cell) = true)
    (hnd : ((cellsFrom 0 scope.names []).map (·.1)).Nodup)
    (h : ∀ g L' h₁ tk cells, Fr g L' h₁ (bindL (envOfC qual scope L' f cdv).kindOf binds fun _ => none) → News g L' h₁ (cells ++ W) →
      CellsAre (bindC (envOfC qual scope L' f cdv).kindOf binds fun _ => none) (cellsFrom (L' + 1) scope.names []) cells → (∀ p ∈ cells, ∀ q ∈ W, p.1 ≠ q.1) → K.In g → TopRead vw (looseW vw []) mg mb g →
      (∀ b o, s.heap.get? b = some o → b ∉ W.map (·.1) → g.get? b = some o) → (∀ b o, g.get? b = some o → s.heap.get? b = some o) →
      wpAny (model prog w) (AA (d + 1) (u + 3)) (execs body (envOfC qual scope L' f cdv))
        (fun fl s' => R (.ok (.ret (match fl with | .ret v => v | _ => .none))) s') (fun _ _ => False)
        { s with heap := h₁, toks := tk })
    (hco : scope.isCoroutine = false := by rfl) (hgen : scope.isGenerator = false := by rfl) (hk : scope.kind = .function := by rfl) :
    codeAny (model prog w) (AA d u) (.call (.ref f) ⟨args, []⟩) R s := by
  have st₁ : ∀ b o, h₀.get? b = some o → (hideAll s.heap (W.map (·.1))).get? b = some o := fun b o e => hideAll_get _ (st b o e) fun hm => by
    obtain ⟨p, hp, rfl⟩ := List.mem_map.mp hm
    rw [(hW p hp).2] at e; cases e
  have X₁ := X.keeps st₁
  refine codeAny_call_function hroom ((X.k.keeps st) _ _ ho) rfl hco hgen rfl (codeRec_of (X.k.keeps st) hcd) (hbind _ _ _ _ ?_)
  refine wpAny_newFunctionEnv_cells hk (kindsX hkind _) fun env' he s' x => ?_
  subst he
  refine ⟨(X.t.nolimit.keeps st).keeps x.toInCall.keep, codeAny_func ?_⟩
  obtain ⟨h₁, tk, rfl, _⟩ := x.done
  have hk₁ := x.toInCall.keep
  obtain ⟨cells, NC, Y⟩ := Cl.news (h₀ := s.heap) (Nat.le_refl _) fun n c hm => ⟨x.cell n c (lookup_of_mem_nodup (cellsFrom_names scope.names 0 (s.heap.objs.size + 1) [] [] rfl ▸ hnd) hm), x.above n c hm⟩
  refine wpAny_mono (of_AA (d + 1) (u + 3) (h _ s.heap.objs.size h₁ tk cells ⟨x.toInCall.ns, fun b o e => hk₁ b o (of_hideAll _ e), Nat.le_of_eq (hideAll_size _ _)⟩ (fun p hp => ?_) Y (fun p hp q hq e => ?_) X₁.k X₁.t (fun b o e n => hideAll_get _ e n) (fun b o e => of_hideAll _ e)) rfl (Nat.le_refl _) (Nat.le_refl _)) (fun _ _ x => x) (fun _ _ x => x.elim)
  · rcases List.mem_append.mp hp with hp | hp
    · refine ⟨(NC p hp).1, (NC p hp).2.1, ?_⟩
      cases q : (hideAll s.heap (W.map (·.1))).get? p.1 with
      | none => rfl
      | some o => have := of_hideAll _ q; rw [(NC p hp).2.2] at this; cases this
    · exact ⟨hk₁ _ _ (hW p hp).1, Nat.ne_of_lt (Heap.lt_size (hW p hp).1), hideAll_none _ (List.mem_map_of_mem hp)⟩
  · have h1 := (NC p hp).2.2
    rw [e, (hW q hq).1] at h1; cases h1

open PySem.Spec in
theorem make_newC {w : World} {d u : Nat} {E Q : Value → Shared → Prop} {s : Shared} {K : Frag} {mg mb : Str → Option Value} {h₀ : Heap} {C fI : Addr} {vals : List Value}
    {name qual : Str} {params : Arguments} {body : List Stmt} {scope : Scope} {dV kV doc pm cdv ct oc : Value} {an od : Option Addr} {osl : Array (Option Value)} {binds : Addr → List (Str × Value)}
    (X : Amb K mg mb h₀) (st : h₀.StaysIn s.heap) (hm : makesIn K C = true) (hi : findIn K (.ref C) "__init__" = some (some (.ref fI))) (hf : isFn K (.ref fI) = true)
    (ho : K.lookup fI = some ⟨oc, od, .func (fnOf name qual params body scope dV kV doc pm an cdv ct), osl⟩) (hcd : codeIn K cdv qual = true) (hroom : d + 1 < recursionLimit)
    (hbind : ∀ x s', BindsTo s' (fnOf name qual params body scope dV kV doc pm an cdv ct) ⟨.ref x :: vals, []⟩ (binds x))
    (hkind : ∀ x, ((binds x).all fun y => scope.names.lookup y.1 == some .local || scope.names.lookup y.1 == some .cell) = true)
    (hnd : ((cellsFrom 0 scope.names []).map (·.1)).Nodup)
    (h : ∀ x dx g L' h₁ tk cells, @LT.lt Nat _ dx x → Fr g L' h₁ (bindL (envOfC qual scope L' fI cdv).kindOf (binds x) fun _ => none) → News g L' h₁ (cells ++ [(x, instObj C dx), (dx, dictOf [] 0)]) →
      CellsAre (bindC (envOfC qual scope L' fI cdv).kindOf (binds x) fun _ => none) (cellsFrom (L' + 1) scope.names []) cells → (∀ p ∈ cells, ∀ q ∈ [(x, instObj C dx), (dx, dictOf [] 0)], p.1 ≠ q.1) → K.In g → TopRead vw (looseW vw []) mg mb g →
      s.heap.StaysIn g →
      wpAny (model PR w) (AA (d + 2) (u + 8)) (execs body (envOfC qual scope L' fI cdv))
        (fun fl s' => (match fl with | .ret v => v | _ => .none) = .none ∧ Q (.ref x) s') (fun _ _ => False)
        { s with heap := h₁, toks := tk })
    (hco : scope.isCoroutine = false := by rfl) (hgen : scope.isGenerator = false := by rfl) (hk : scope.kind = .function := by rfl) :
    wpAny (model PR w) (AA d u) (call (.ref C) vals) Q E s := by
  refine wpAny_call ?_
  obtain ⟨hh, gs, dr, t, os⟩ := s
  have Xk := X.k.keeps st
  refine make_core (makes_of Xk hm) (looks_findIn Xk hi) (fun self => bind_fn Xk self (beq_iff_eq.mp hf)) (.inl rfl) ?_
  have k1 : hh.StaysIn ((hh.push emptyDict).push (instObj C hh.objs.size)) := fun b o e => Heap.get?_push_of_some _ (Heap.get?_push_of_some _ e)
  have fresh : ∀ a, hh.objs.size ≤ a → hh.get? a = none := fun a ha => by
    cases e : hh.get? a with
    | none => rfl
    | some o' => exact absurd (Heap.lt_size e) (Nat.not_lt.mpr ha)
  have nx : ((hh.push emptyDict).push (instObj C hh.objs.size)).get? (hh.objs.size + 1) = some (instObj C hh.objs.size) := by
    have := Heap.get?_push_size (hh.push emptyDict) (o := instObj C hh.objs.size) rfl
    rwa [Heap.size_push] at this
  have nd : ((hh.push emptyDict).push (instObj C hh.objs.size)).get? hh.objs.size = some (dictOf [] 0) := Heap.get?_push_of_some _ (Heap.get?_push_size _ rfl)
  have hW : ∀ p ∈ [(hh.objs.size + 1, instObj C hh.objs.size), (hh.objs.size, dictOf [] 0)], ((hh.push emptyDict).push (instObj C hh.objs.size)).get? p.1 = some p.2 ∧ hh.get? p.1 = none := by
    intro p hp
    rcases List.mem_cons.mp hp with rfl | hp
    · exact ⟨nx, fresh _ (Nat.le_succ _)⟩
    · rw [List.mem_singleton.mp hp]; exact ⟨nd, fresh _ (Nat.le_refl _)⟩
  refine code_AA (d + 1) (u + 5) (enter_codeC (X.keeps st) k1 _ hW ho hcd hroom (hbind _ _) (hkind _) hnd (fun g L' h₁ tk cells F N Y off KX T up dn => ?_) hco hgen hk) rfl (Nat.le_refl _) ?_
  · refine wpAny_mono (h (hh.objs.size + 1) hh.objs.size g L' h₁ tk cells (Nat.lt_succ_self _) F N Y off KX T (fun b o e => up b o (k1 b o e) (by
      intro hb
      have lt := Heap.lt_size e
      simp only [List.map_cons, List.map_nil, List.mem_cons, List.not_mem_nil, or_false] at hb
      rcases hb with rfl | rfl
      · exact Nat.not_succ_le_self _ (Nat.le_of_succ_le lt)
      · exact Nat.lt_irrefl _ lt))) (fun fl s' hq => hq) fun _ _ x => x
  · show u + _ ≤ u + 5
    exact Nat.add_le_add_left (show 1 + 3 * 0 ≤ 5 by decide) u
end

section
/-- a plain list of ints -/
def RowP (S : Addr → Obj → Prop) (a : Addr) (row : List Int) : Prop := ∃ vs n, S a (W.listOf vs.toArray n) ∧ IntsAre vs row
theorem RowP.mono {S S' : Addr → Obj → Prop} {a xs} (h : RowP S a xs) (k : ∀ a o, S a o → S' a o) : RowP S' a xs := let ⟨vs, n, x, y⟩ := h; ⟨vs, n, k _ _ x, y⟩
def StateI (S : Addr → Obj → Prop) (x dx kl : Addr) (as : List Addr) : Prop :=
  ∃ h1 k1, S x (instObj 151 dx) ∧ S dx (dictOf [⟨h1, .str "known" k1, .ref kl⟩] 1) ∧ LstS S kl (refs as) ∧ x ∉ as ∧ dx ∉ as ∧ kl ∉ as ∧ as.Nodup

theorem Built.refsN {β : Type} {P : (Addr → Obj → Prop) → Addr → β → Prop} {made : List (Addr × Obj)} {ks : List β} {ys : List Value} (b : Built (RefR P) made ks ys)
    (mono : ∀ {S S' : Addr → Obj → Prop} {a k}, (∀ a o, S a o → S' a o) → P S a k → P S' a k) (has : ∀ {S : Addr → Obj → Prop} {a k}, P S a k → ∃ o, S a o) :
    ∃ xs, ys = Mine.refs xs ∧ All2 (P (On made)) xs ks ∧ xs.Nodup ∧ ∀ a ∈ xs, ∃ o, (a, o) ∈ made := by
  induction b with
  | nil => exact ⟨[], rfl, .nil, List.nodup_nil, fun _ h => nomatch h⟩
  | snoc _ off r ih =>
    obtain ⟨xs, rfl, h, nd, hin⟩ := ih
    obtain ⟨a, rfl, ha⟩ := r
    obtain ⟨o, ho⟩ := has ha
    refine ⟨xs ++ [a], by simp, (h.imp fun _ _ y => mono (fun _ _ h => List.mem_append_right _ h) y).snoc (mono (fun _ _ h => List.mem_append_left _ h) ha), ?_, fun b hb => ?_⟩
    · refine List.nodup_append.mpr ⟨nd, by simp, fun b hb c hc e => ?_⟩
      obtain ⟨o', ho'⟩ := hin b hb
      rw [List.mem_singleton.mp hc] at e
      exact off _ ho _ ho' e.symm
    · rcases List.mem_append.mp hb with hb | hb
      · obtain ⟨o', ho'⟩ := hin b hb; exact ⟨o', List.mem_append_right _ ho'⟩
      · rw [List.mem_singleton.mp hb]; exact ⟨o, List.mem_append_left _ ho⟩

theorem state_new {w : World} {fx : Addr} {f : FrameD} :
    Con 430 430 w 151 [.ref fx] (fun S => FrameS S fx f ∧ FrameOk f) (fun S r => ∃ x dx kl as, r = .ref x ∧ StateI S x dx kl as ∧ All2 (RowP S) as (f.comps.map fun _ => List.replicate (f.n * f.n).toNat (-1))) := by
  rintro E Q s mg mb h₀ X st ⟨hf, hok⟩ hQ
  k_dflt (refine' make_newC (binds := fun x => [(Str.ofString "self", .ref x), (Str.ofString "frame", .ref fx)]) X st ?hm ?hi ?hf ?ho ?hcd ?room ?hb ?hkd ?hnd ?_ ?c2 ?c3 ?c4)
  walk_at "MY_NEWC"
  intro x dx g L h₁ tk cells lt F N Y off KX T up
  k_cells Y
  rename_i o1 d1
  replace d1 : o1.data = .cell (some (.ref fx)) := d1
  simp only [List.cons_append, List.nil_append] at N
  have n1 : L + 1 ≠ x := off _ (.head _) _ (.head _)
  have n2 : L + 1 ≠ dx := off _ (.head _) _ (.tail _ (.head _))
  replace hf := hf.mono (S' := At g) up
  obtain ⟨cs, as, ⟨fdx, a1, a2, a3, a4, a5, a6, k1, k2, k3, k4, k5, k6, t1, v2, v3, v4, t6, hx, hdx⟩, hcs, hcomps⟩ := id hf
  have hcl := hcs.isList
  have hal := hcomps.length
  obtain ⟨hok1, hok2, hok3, hok4, hok5⟩ := id hok
  have hnn : f.n * f.n ≤ 64 := Int.le_trans (Int.mul_le_mul hok5 hok5 (by omega) (by omega)) (by decide)
  have hnn1 : 1 ≤ f.n * f.n := Int.le_trans (by decide) (Int.mul_le_mul hok4 hok4 (by omega) (by omega))
  clear off X st
  k_unmd
  k_fold
  k_steps
  refine ⟨?_⟩
  k_dflt (refine plainObj_wpAny_Assign_Attribute ?_ (by with_unfolding_all rfl))
  rename Fr _ _ _ _ => F9
  rename News _ _ _ _ => N9
  k_dflt (refine' comp_eval F9 rfl ?clo ?cell ?kind ?nm ?x ?_)
  walk_at "MY_COMP"
  k_steps
  refine CompAt.base (RefR fun S x (_ : Int × Int) => RowP S x (List.replicate (f.n * f.n).toNat (-1))) hcl (refV_of hcomps) (by k_asm) (by k_asm) (by rw [List.length_map, sizeLine_eq]; omega) (fun C => ?elt) (fun D h' tk ys made n F' N' oD mN hB => ?fin)
  case elt =>
    clear F9 N9
    intro s' v p oC rest mC hps hv _ F N sub nsC hm
    have m1 := sub _ (List.Mem.head _)
    refine held_post ?_
    k_steps
    rename_i l8 h8 F8 N8 l88 D9 h9 F9 N9 i1 n1 s1 e1 e2 e3 l9
    refine ⟨⟨_, _, [(D9, _), (l8, _)], rfl, F9, N9, ?_, D9, rfl, _, _, .head _, by simpa using i1⟩⟩
    intro q hq r hr
    rcases List.mem_cons.mp hq with rfl | hq
    · exact (show AllLt D9 (_ :: rest) → _ from fun z => allLt_off z r hr) l9.2
    · rw [List.mem_singleton.mp hq]; exact (show AllLt l8 (_ :: rest) → _ from fun z => allLt_off z r hr) l88
  case fin =>
    obtain ⟨xs, rfl, hxs, hnd, hin⟩ := hB.refsN (P := fun S x (_ : Int × Int) => RowP S x (List.replicate (f.n * f.n).toNat (-1))) (fun k h => h.mono k) fun h => let ⟨_, _, h, _⟩ := h; ⟨_, h⟩
    clear F9 N9
    have c1 : L + 1 ≠ D := oD _ (List.mem_append_right _ (.head _))
    have c2 : x ≠ D := oD _ (List.mem_append_right _ (.tail _ (.head _)))
    have c3 : dx ≠ D := oD _ (List.mem_append_right _ (.tail _ (.tail _ (.head _))))
    k_steps
    rename Fr _ _ _ _ => F9
    rename News _ _ _ _ => N9
    refine hQ _ _ _ _ (stays_of F9 up) (led_of N9 up) ⟨x, dx, D, xs, rfl, ⟨_, _, .tail _ (List.mem_append_right _ (.tail _ (.head _))), .tail _ (List.mem_append_right _ (.tail _ (.tail _ (.head _)))), ⟨_, _, .head _, rfl, rfl⟩, fun hm => ?_, fun hm => ?_, fun hm => ?_, hnd⟩, (hxs.imp fun _ _ h => h.mono fun _ _ h => .tail _ (List.mem_append_left _ h)).mapR⟩
    · obtain ⟨o, ho⟩ := hin _ hm
      exact mN _ ho _ (.tail _ (.head _)) rfl
    · obtain ⟨o, ho⟩ := hin _ hm
      exact mN _ ho _ (.tail _ (.tail _ (.head _))) rfl
    · obtain ⟨o, ho⟩ := hin _ hm
      exact oD _ (List.mem_append_left _ ho) rfl
end

section
/-- the rows that may turn -/
inductive RowsL : List (Addr × Obj) → List Addr → List (List Int) → Prop
  | nil : RowsL [] [] []
  | cons {a vs n tl as row rows} : IntsAre vs row → (∀ p ∈ tl, p.1 ≠ a) → RowsL tl as rows → RowsL ((a, W.listOf vs.toArray n) :: tl) (a :: as) (row :: rows)
theorem RowsL.addrs {tl as rows} (h : RowsL tl as rows) : tl.map (·.1) = as := by
  induction h with
  | nil => rfl
  | cons _ _ _ ih => simp [ih]
theorem RowsL.length {tl as rows} (h : RowsL tl as rows) : as.length = rows.length := by
  induction h with
  | nil => rfl
  | cons _ _ _ ih => simp [ih]
/-- a row taken out, to be put back turned -/
theorem RowsL.split {tl as rows} (h : RowsL tl as rows) : ∀ {p : Nat} {row : List Int}, rows[p]? = some row →
    ∃ a l1 l2 vs n, as[p]? = some a ∧ tl = l1 ++ (a, W.listOf vs.toArray n) :: l2 ∧ IntsAre vs row ∧ (∀ q ∈ l1 ++ l2, q.1 ≠ a) ∧
      ∀ {vs' n' row'}, IntsAre vs' row' → RowsL (l1 ++ (a, W.listOf vs'.toArray n') :: l2) as (rows.set p row') := by
  induction h with
  | nil => intro p row e; cases e
  | @cons a vs n tl as row₀ rows hi hd hr ih =>
    intro p row e
    cases p with
    | zero =>
      obtain rfl := Option.some.inj e
      exact ⟨a, [], tl, vs, n, rfl, rfl, hi, hd, fun h => .cons h hd hr⟩
    | succ p =>
      obtain ⟨b, l1, l2, vs', n', h1, rfl, h3, h4, h5⟩ := ih (by simpa using e)
      have hba : b ≠ a := hd (b, _) (List.mem_append_right _ (.head _))
      refine ⟨b, (a, W.listOf vs.toArray n) :: l1, l2, vs', n', by simpa using h1, rfl, h3, fun q hq => ?_, fun h => ?_⟩
      · rcases List.mem_cons.mp hq with rfl | hq
        · exact Ne.symm hba
        · exact h4 q hq
      · refine .cons hi (fun q hq => ?_) (h5 h)
        rcases List.mem_append.mp hq with hq | hq
        · exact hd q (List.mem_append_left _ hq)
        · rcases List.mem_cons.mp hq with rfl | hq
          · exact hba
          · exact hd q (List.mem_append_right _ (.tail _ hq))
theorem RowsL.of {tl : List (Addr × Obj)} {as rows} (h : All2 (RowP (On tl)) as rows) : as.Nodup → ∃ rl, RowsL rl as rows ∧ ∀ p ∈ rl, p ∈ tl := by
  induction h with
  | nil => exact fun _ => ⟨[], .nil, fun _ h => nomatch h⟩
  | cons x _ ih =>
    intro nd
    obtain ⟨hn, nd⟩ := List.nodup_cons.mp nd
    obtain ⟨rl, h1, h2⟩ := ih nd
    obtain ⟨vs, n, h3, h4⟩ := x
    refine ⟨(_, W.listOf vs.toArray n) :: rl, .cons h4 (fun p hp e => hn ?_) h1, fun p hp => ?_⟩
    · rw [← h1.addrs, ← e]; exact List.mem_map_of_mem hp
    · rcases List.mem_cons.mp hp with rfl | hp
      · exact h3
      · exact h2 p hp
theorem ints_set {vs : List Value} {ns : List Int} (h : IntsAre vs ns) (i : Nat) (v : Int) (t : Tok) : IntsAre (vs.set i (.int v t)) (ns.set i v) := by
  induction h generalizing i with
  | nil => exact .nil
  | cons n t' r ih =>
    cases i with
    | zero => exact .cons _ _ r
    | succ i => exact .cons _ _ (ih i)

/-- the state: what each component's row holds at each place -/
abbrev St := Nat → Nat → Int
def rowOf (M : Nat) (r : Nat → Int) : List Int := (List.range M).map r
def rowsOf (N M : Nat) (st : St) : List (List Int) := (List.range N).map fun p => rowOf M (st p)
theorem rowOf_length (M : Nat) (r : Nat → Int) : (rowOf M r).length = M := by simp [rowOf]
theorem rowOf_get {M i : Nat} {r : Nat → Int} (h : i < M) : (rowOf M r)[i]? = some (r i) := by simp [rowOf, h]
theorem rowOf_getD {M i : Nat} {r : Nat → Int} (h : i < M) (d : Int) : (rowOf M r).getD i d = r i := by rw [List.getD_eq_getElem?_getD, rowOf_get h]; rfl
theorem rowOf_set {M i : Nat} {r : Nat → Int} {v : Int} : (rowOf M r).set i v = rowOf M fun k => if k = i then v else r k := by
  apply List.ext_getElem?
  intro k
  by_cases hk : k < M
  · rw [List.getElem?_set]
    by_cases e : i = k
    · subst e; rw [if_pos rfl, if_pos (by rw [rowOf_length]; exact hk), rowOf_get hk, if_pos rfl]
    · rw [if_neg e, rowOf_get hk, rowOf_get hk, if_neg (Ne.symm e)]
  · rw [List.getElem?_eq_none (by rw [List.length_set, rowOf_length]; omega), List.getElem?_eq_none (by rw [rowOf_length]; omega)]
theorem rowsOf_get {N M p : Nat} {st : St} (h : p < N) : (rowsOf N M st)[p]? = some (rowOf M (st p)) := by simp [rowsOf, h]
theorem rowsOf_set {N M p : Nat} {st : St} {r : Nat → Int} : (rowsOf N M st).set p (rowOf M r) = rowsOf N M fun q => if q = p then r else st q := by
  apply List.ext_getElem?
  intro k
  by_cases hk : k < N
  · rw [List.getElem?_set]
    by_cases e : p = k
    · subst e; rw [if_pos rfl, if_pos (by simp [rowsOf, hk]), rowsOf_get hk, if_pos rfl]
    · rw [if_neg e, rowsOf_get hk, rowsOf_get hk, if_neg (Ne.symm e)]
  · rw [List.getElem?_eq_none (by rw [List.length_set]; simp [rowsOf]; omega), List.getElem?_eq_none (by simp [rowsOf]; omega)]
theorem rowsOf_congr {N M : Nat} {st st' : St} (h : ∀ p i, p < N → i < M → st p i = st' p i) : rowsOf N M st = rowsOf N M st' := by
  refine List.map_congr_left fun p hp => List.map_congr_left fun i hi => h p i (List.mem_range.mp hp) (List.mem_range.mp hi)

/-- a scan followed: its band of its components is set -/
def goD (c : ScanD) (st : St) : St := fun p i => if (p : Int) ∈ c.places ∧ c.start ≤ (i : Int) ∧ (i : Int) ≤ c.stop then c.low else st p i
def goOk (c : ScanD) (st : St) : Prop := ∀ p : Nat, (p : Int) ∈ c.places → (0 < c.start → st p 0 ≠ -1) ∧ ∀ i : Nat, c.start ≤ (i : Int) → (i : Int) ≤ c.stop → if c.high = 0 then st p i = -1 else st p i = c.high
end

section
section
variable {prog : Program} {w : World} {A : Around} {E : Value → Shared → Prop} {s : Shared} {h₀ : Heap} {L a : Addr} {m : Str → Option Value} {pre post : List (Addr × Obj)} {vs : List Value} {n : Nat} {k : Int} {t : Tok}
theorem set_row {v : Value} {Q : Unit → Shared → Prop} (F : Fr h₀ L s.heap m) (N : News h₀ L s.heap (pre ++ (a, W.listOf vs.toArray n) :: post)) (ap : ∀ p ∈ pre, p.1 ≠ a) (bp : ∀ p ∈ post, p.1 ≠ a)
    (h0 : 0 ≤ k) (hfit : k < 2 ^ 63) (h1 : k < vs.length) (h : ∀ h', Fr h₀ L h' m → News h₀ L h' (pre ++ (a, W.listOf (vs.set k.toNat v).toArray n) :: post) → Q () { s with heap := h' }) :
    wpAny (model prog w) A (setItem (.ref a) (.int k t) v) Q E s := by
  have z := N (a, W.listOf vs.toArray n) (List.mem_append.mpr (.inr (.head _)))
  refine ki_setAt z.1 h0 hfit (by simpa using h1) (h _ (F.change (Heap.SameBut.update ..) z.2.1 z.2.2) (ki_turn _ N ap bp ?_ ?_))
  · simp
  · simp
theorem item_ints {value slice : PySem.Expr} {ns : List Int} {Q : Value → Shared → Prop} (hl : s.heap.IsList a vs.toArray) (hi : IntsAre vs ns) (h0 : 0 ≤ k) (h1 : k < ns.length) (hfit : k < 2 ^ 63) (h : ∀ t', Q (.int (ns.getD k.toNat 0) t') s)
    (hs : subscripted slice false (.ref a) (.int k t) = operate [.ref a, .int k t] (getItem (.ref a) (.int k t)) := by with_unfolding_all rfl) :
    wpAny (model prog w) A (subscriptTail value slice (.ref a) (.int k t)) Q E s :=
  item_vals hl h0 (by rw [hi.length]; exact h1) hfit (fun v hv => by
    obtain ⟨p, t', rfl, hp⟩ := ints_get hi hv
    have := h t'
    rwa [List.getD_eq_getElem?_getD, hp] at this) hs
end

def goAt (c : ScanD) (i : Nat) (st : St) : St := fun p k => if (p : Int) ∈ c.places.take i ∧ c.start ≤ (k : Int) ∧ (k : Int) ≤ c.stop then c.low else st p k
theorem goAt_zero (c : ScanD) (st : St) : goAt c 0 st = st := by funext p k; simp [goAt]
theorem goAt_full (c : ScanD) (st : St) : goAt c c.places.length st = goD c st := by funext p k; simp [goAt, goD]
theorem goAt_succ {c : ScanD} {st : St} {i : Nat} {p : Nat} (h : c.places[i]? = some (p : Int)) : goAt c (i + 1) st = fun q => if q = p then (fun k : Nat => if c.start ≤ (k : Int) ∧ (k : Int) ≤ c.stop then c.low else goAt c i st p k) else goAt c i st q := by
  funext q k
  simp only [goAt, List.take_succ, h, Option.toList_some, List.mem_append, List.mem_singleton]
  by_cases e : q = p
  · subst e
    simp only [or_true, true_and, if_true]
    by_cases e2 : c.start ≤ (k : Int) ∧ (k : Int) ≤ c.stop
    · rw [if_pos e2, if_pos e2]
    · rw [if_neg e2, if_neg e2, if_neg (fun h => e2 h.2)]
  · rw [if_neg e]
    have e' : (q : Int) ≠ (p : Int) := by omega
    simp [e', goAt]
theorem goAt_same {c : ScanD} {st : St} {i p : Nat} (h : c.places[i]? = some (p : Int)) (nd : c.places.Nodup) (k : Nat) : goAt c i st p k = st p k := by
  have hn : (p : Int) ∉ c.places.take i := by
    intro hm
    obtain ⟨hi, e⟩ := List.getElem?_eq_some_iff.mp h
    have hd : c.places.drop i = (p : Int) :: c.places.drop (i + 1) := by rw [List.drop_eq_getElem_cons hi, e]
    rw [← List.take_append_drop i c.places, hd] at nd
    exact (List.nodup_append.mp nd).2.2 _ hm _ (.head _) rfl
  simp [goAt, hn]

/-- a row with the first j places of a band told -/
def bandR (c : ScanD) (r : Nat → Int) (j : Nat) : Nat → Int := fun k => if c.start ≤ (k : Int) ∧ (k : Int) < c.start + j then c.low else r k
theorem bandR_zero (c : ScanD) (r : Nat → Int) : bandR c r 0 = r := funext fun k => if_neg (by omega)
theorem bandR_succ {c : ScanD} (r : Nat → Int) {j : Nat} (h0 : 0 ≤ c.start) : (fun k => if k = (c.start + (j : Int)).toNat then c.low else bandR c r j k) = bandR c r (j + 1) := funext fun k => by
  unfold bandR
  by_cases e1 : k = (c.start + (j : Int)).toNat
  · rw [if_pos e1, if_pos (by omega)]
  · rw [if_neg e1]
    by_cases e2 : c.start ≤ (k : Int) ∧ (k : Int) < c.start + j
    · rw [if_pos e2, if_pos (by omega)]
    · rw [if_neg e2, if_neg (by omega)]
theorem bandR_at {c : ScanD} (r : Nat → Int) {j : Nat} (h0 : 0 ≤ c.start) : bandR c r j (c.start + (j : Int)).toNat = r (c.start + (j : Int)).toNat := if_neg (by omega)
theorem bandR_full {c : ScanD} {r r' : Nat → Int} (h1 : c.start ≤ c.stop) (hr : ∀ k, r' k = r k) : (fun k : Nat => if c.start ≤ (k : Int) ∧ (k : Int) ≤ c.stop then c.low else r' k) = bandR c r (c.stop + 1 - c.start).toNat := funext fun k => by
  unfold bandR
  rw [hr]
  by_cases e2 : c.start ≤ (k : Int) ∧ (k : Int) ≤ c.stop
  · rw [if_pos e2, if_pos (by omega)]
  · rw [if_neg e2, if_neg (by omega)]
theorem turn_facts {c : ScanD} {n : Int} {M j : Nat} (h0 : 0 ≤ c.start) (h2 : c.stop ≤ n * n - 1) (hMn : (M : Int) = n * n) (hj : j < (c.stop + 1 - c.start).toNat) :
    (c.start + (j : Int)).toNat < M ∧ c.start ≤ ((c.start + (j : Int)).toNat : Int) ∧ ((c.start + (j : Int)).toNat : Int) ≤ c.stop ∧ 0 ≤ c.start + (j : Int) ∧ c.start + (j : Int) < M := by omega
theorem loop_facts {c : ScanD} {n : Int} (h0 : 0 ≤ c.start) (h1 : c.start ≤ c.stop) (h2 : c.stop ≤ n * n - 1) (hnn : n * n ≤ 64) :
    (if n * n - 1 < c.stop then n * n - 1 else c.stop) = c.stop ∧ (((c.stop + 1 - c.start).toNat : Nat) : Int) = (if c.start < c.stop + 1 then c.stop + 1 - c.start else 0) ∧ -1000000 < c.start ∧ c.start < 1000000 ∧ -1000000 < c.stop + 1 ∧ c.stop + 1 < 1000000 := by
  refine ⟨?_, ?_, ?_, ?_, ?_, ?_⟩
  · split <;> omega
  · split <;> omega
  all_goals omega

theorem follow_spec {w : World} {E : Value → Shared → Prop} {Q : Value → Shared → Prop} {s : Shared} {mg mb : Str → Option Value} {h₀ : Heap} {fx sx x dx kl : Addr} {as : List Addr} {f : FrameD} {c : ScanD} {st0 : St} {rl : List (Addr × Obj)}
    (X : Amb (hd.heap_1 w.params) mg mb h₀) (st : h₀.StaysIn s.heap) (hrl : ∀ p ∈ rl, s.heap.get? p.1 = some p.2 ∧ h₀.get? p.1 = none)
    (hf : FrameS (At h₀) fx f) (hok : FrameOk f) (hkd : KindOk f.kind) (hs : ScanS (At h₀) sx c) (hx : StateI (At s.heap) x dx kl as)
    (hr : RowsL rl as (rowsOf f.comps.length (f.n * f.n).toNat st0)) (hin : InF f c.places) (hlen : c.places.length ≤ 4) (hnd : c.places.Nodup) (h0 : 0 ≤ c.start) (h1 : c.start ≤ c.stop) (h2 : c.stop ≤ f.n * f.n - 1) (hgo : goOk c st0)
    (hQ : ∀ h' tk' rl', (∀ b o, b ∉ as → s.heap.get? b = some o → h'.get? b = some o) → (∀ p ∈ rl', h'.get? p.1 = some p.2) → RowsL rl' as (rowsOf f.comps.length (f.n * f.n).toNat (goD c st0)) → Q .none { s with heap := h', toks := tk' }) :
    wpAny (model PR w) (AA 420 420) (call (.ref 141) [.ref x, .ref fx, .ref sx]) Q E s := by
  k_dflt (refine' enter_def (binds := [(Str.ofString "self", .ref x), (Str.ofString "frame", .ref fx), (Str.ofString "scan", .ref sx)]) (W := rl) X st hrl ?ho ?hcd ?room ?hb ?hl ?_ ?c2 ?c3 ?c4 ?c5)
  walk_at "MY_ENTER"
  intro g L h₁ F N KX T up dn
  rw [hr.addrs] at up
  have up0 : h₀.StaysIn g := fun b o e => up b o (st b o e) (by
    rw [← hr.addrs]; intro hm
    obtain ⟨p, hp, rfl⟩ := List.mem_map.mp hm
    rw [(hrl p hp).2] at e; cases e)
  replace hf := hf.mono (S' := At g) up0
  replace hs := hs.mono (S' := At g) up0
  obtain ⟨pl, dc, ac, ⟨sd, e1, e2, e3, e4, e5, e6, e7, q1, q2, q3, q4, q5, q6, q7, u4, u5, u6, u7, hsx, hsd⟩, ⟨vs, hpl, hvs⟩, -, -⟩ := id hs
  replace hpl := hpl.isList
  obtain ⟨cs, cas, ⟨fdx, a1, a2, a3, a4, a5, a6, k1, k2, k3, k4, k5, k6, t1, v2, v3, v4, t6, hfx, hfdx⟩, hcs, hcomps⟩ := id hf
  obtain ⟨z1, z2, hxx, hxd, ⟨ko, kn, hko, hkc, hkd'⟩, n1, n2, n3, n4⟩ := id hx
  replace hxx := up _ _ hxx n1
  replace hxd := up _ _ hxd n2
  have hkl : g.IsList kl (refs as).toArray := ⟨ko, up _ _ hko n3, hkc, kn, hkd'⟩
  have has : as.length = f.comps.length := by rw [hr.length]; simp [rowsOf]
  obtain ⟨hok1, hok2, hok3, hok4, hok5⟩ := id hok
  have hnn : f.n * f.n ≤ 64 := Int.le_trans (Int.mul_le_mul hok5 hok5 (by omega) (by omega)) (by decide)
  have hnn1 : 1 ≤ f.n * f.n := Int.le_trans (by decide) (Int.mul_le_mul hok4 hok4 (by omega) (by omega))
  obtain ⟨M, hM⟩ : ∃ M : Nat, M = (f.n * f.n).toNat := ⟨_, rfl⟩
  have hMn : (M : Int) = f.n * f.n := by omega
  rw [← hM] at hr
  obtain ⟨kk, hkk⟩ : ∃ kk, kk = Str.ofString f.kind := ⟨_, rfl⟩
  rw [← hkk] at hfdx
  have hnl : (kk == Str.ofString "lossless") = false := by rw [hkk]; rcases hkd with e | e | e <;> rw [e] <;> decide +kernel
  clear hkk
  clear hx X st dn hrl
  k_unmd
  k_fold
  k_steps
  refine ⟨?_⟩
  refine For_invV g rfl rfl (held_post ?_) (hE := PassesOwn.never)
  k_steps
  refine ⟨?_⟩
  rename Fr _ _ _ _ => F9
  rename News _ _ _ _ => N9
  refine iter_listV (fun m₀ i m nx => RowsL nx as (rowsOf f.comps.length M (goAt c i st0)) ∧ Keep ["place", "row", "at"] m₀ m) rfl hpl F9 N9 ?start ?turn ?done
  case start => exact ⟨by rw [goAt_zero]; exact hr, Keep.refl _ _⟩
  case turn =>
    clear F9 N9
    rintro i v m₁ nx h tk I oI hv hI ⟨hr1, u, rfl⟩ F N
    obtain ⟨p0, tp, rfl, hpi⟩ := ints_get hvs hv
    obtain ⟨hin1, hin2⟩ := hin p0 (List.mem_of_getElem? hpi)
    obtain ⟨p, rfl⟩ : ∃ p : Nat, p0 = (p : Int) := ⟨p0.toNat, by omega⟩
    have hpM : (p : Int) < f.comps.length := hin2
    obtain ⟨a, l1, l2, ws, n, hap, rfl, hws, hoff, hput⟩ := hr1.split (rowsOf_get (by omega : p < f.comps.length))
    have hwl : ws.length = M := by rw [hws.length, rowOf_length]
    obtain ⟨g1, g2⟩ := hgo p (List.mem_of_getElem? hpi)
    have hsame := fun k => goAt_same (st := st0) hpi hnd k
    clear hr1
    have hM0 : 0 < M := by omega
    rw [show rowOf M (goAt c i st0 p) = rowOf M (st0 p) from by rw [show goAt c i st0 p = st0 p from funext hsame]] at hws
    have hg0 : (rowOf M (st0 p)).getD (Int.toNat 0) 0 = st0 p 0 := rowOf_getD hM0 0
    k_steps
    · exfalso
      rename List.getD _ _ _ = -1 => ha
      exact g1 (by assumption) (hg0.symm.trans ha)
    all_goals (
      refine ⟨?_⟩
      refine For_invV g rfl rfl ?_ (hE := PassesOwn.never)
      k_steps
      refine ⟨?_⟩
      rename Fr _ _ _ _ => F9
      rename News _ _ _ _ => N9
      obtain ⟨hmin, lf1, lf2, lf3, lf4, lf5⟩ := loop_facts h0 h1 h2 hnn
      rw [hmin]
      clear hmin
      refine loop_range2 (n := (c.stop + 1 - c.start).toNat) (fun m₀ j m nx => ∃ vs' n', nx = (I, oI) :: (l1 ++ (a, W.listOf vs'.toArray n') :: l2) ∧ IntsAre vs' (rowOf M (bandR c (st0 p) j)) ∧ Keep ["at"] m₀ m) rfl lf1 lf2 lf3 lf4 lf5 F9 N9 ?start2 ?turn2 ?done2
      case start2 =>
        refine ⟨_, _, rfl, ?_, Keep.refl _ _⟩
        rw [bandR_zero]
        exact hws
      case turn2 =>
        clear F9 N9
        rintro j tj m₂ nx₂ h₂ tk₂ I₂ oI₂ hj hI₂ ⟨vs', n', rfl, hi', u₂, rfl⟩ F N
        obtain ⟨hI₃, hI₂⟩ := List.forall_mem_cons.mp hI₂
        replace hI₃ := neN hI₃
        dsimp only at hI₃
        obtain ⟨hkM, hb1, hb2, hb3, hb4⟩ := turn_facts h0 h2 hMn hj
        have hat : (rowOf M (bandR c (st0 p) j)).getD (c.start + (j : Int)).toNat 0 = st0 p (c.start + (j : Int)).toNat := (rowOf_getD hkM 0).trans (bandR_at _ h0)
        have hg2 := g2 (c.start + (j : Int)).toNat hb1 hb2
        have hvl : vs'.length = M := by rw [hi'.length, rowOf_length]
        have hrowl : (rowOf M (bandR c (st0 p) j)).length = M := rowOf_length _ _
        have hA : c.high = 0 → (rowOf M (bandR c (st0 p) j)).getD (c.start + (j : Int)).toNat 0 = -1 := fun e => by rw [if_pos e] at hg2; exact hat.trans hg2
        have hB : c.high ≠ 0 → (rowOf M (bandR c (st0 p) j)).getD (c.start + (j : Int)).toNat 0 = c.high := fun e => by rw [if_neg e] at hg2; exact hat.trans hg2
        have hM64 : M ≤ 64 := by omega
        have nI : ∀ q ∈ l1 ++ l2, q.1 ≠ I₂ := fun q hq => (List.mem_append.mp hq).elim (fun h => hI₂ q (List.mem_append_left _ h)) fun h => hI₂ q (List.mem_append_right _ (.tail _ h))
        have aI₂ : a ≠ I₂ := hI₂ (a, _) (List.mem_append_right _ (.head _))
        have aI : a ≠ I := hI (a, _) (List.mem_append_right _ (.head _))
        clear hg2 hat g1 g2 hb1 hb2 hj lf1 lf2 lf3 lf4 lf5
        clear hsame
        clear hpM hin1 hin2 hwl hM0 hnn hnn1 hMn hok3 hok4 hok5 h1 h2
        k_steps
        all_goals try (exfalso; first | exact absurd (hA (by assumption)) (by assumption) | exact absurd (hB (by assumption)) (by assumption) | exact absurd (by assumption : c.high = 0) (by assumption))
        all_goals (
          rename Fr _ _ _ _ => F9
          rename News _ _ _ _ => N9
          refine set_row F9 (pre := (I₂, oI₂) :: (I, oI) :: l1) (post := l2) N9 (List.forall_mem_cons.mpr ⟨Ne.symm aI₂, List.forall_mem_cons.mpr ⟨Ne.symm aI, fun q hq => hoff q (List.mem_append_left _ hq)⟩⟩) (fun q hq => hoff q (List.mem_append_right _ hq)) (by omega) (by omega) (by omega) fun h' F' N' => ?_
          clear F9 N9
          k_steps
          rename Fr _ _ _ _ => F9
          rename News _ _ _ _ => N9
          refine ⟨_, _, _, (I, oI) :: (l1 ++ (a, W.listOf (vs'.set (c.start + (j : Int)).toNat (.int c.low u7)).toArray n') :: l2), rfl, F9, N9, ?_, _, _, rfl, ?_, Keep.of fun z hz => ?_⟩
          · refine List.forall_mem_cons.mpr ⟨hI₃, fun q hq => ?_⟩
            rcases List.mem_append.mp hq with hq | hq
            · exact nI q (List.mem_append_left _ hq)
            · rcases List.mem_cons.mp hq with rfl | hq
              · exact aI₂
              · exact nI q (List.mem_append_right _ hq)
          · have := ints_set hi' (c.start + (j : Int)).toNat c.low u7
            rw [rowOf_set] at this
            rw [bandR_succ _ h0] at this
            exact this
          · simp only [List.contains_cons, List.contains_nil, Bool.or_false, Bool.or_eq_false_iff, beq_eq_false_iff_ne] at hz
            simp [hz])
      case done2 =>
        clear F9 N9
        rintro m₂ nx₂ h₂ tk₂ ⟨vs', n', rfl, hi', u₂, rfl⟩ F N
        k_steps
        rename Fr _ _ _ _ => F9
        rename News _ _ _ _ => N9
        have aI9 : a ≠ I := hI (a, _) (List.mem_append_right _ (.head _))
        refine ⟨_, _, _, _, rfl, F9, N9, ?_, ?_, Keep.of fun z hz => ?_⟩
        · intro q hq
          rcases List.mem_append.mp hq with hq | hq
          · exact hI q (List.mem_append_left _ hq)
          · rcases List.mem_cons.mp hq with rfl | hq
            · exact aI9
            · exact hI q (List.mem_append_right _ (.tail _ hq))
        · have := hput (n' := n') hi'
          rw [rowsOf_set] at this
          rw [goAt_succ hpi, bandR_full h1 hsame]
          exact this
        · simp only [List.contains_cons, List.contains_nil, Bool.or_false, Bool.or_eq_false_iff, beq_eq_false_iff_ne] at hz
          simp [hz])
  case done =>
    clear F9 N9
    rintro m₁ nx h tk ⟨hr1, u, rfl⟩ F N
    rw [hvs.length, goAt_full] at hr1
    k_steps
    rename Fr _ _ _ _ => F9
    rename News _ _ _ _ => N9
    refine hQ _ _ nx (fun b o hb e => F9.keep b o (up b o e hb)) (fun p hp => (N9 p hp).1) (hM ▸ hr1)
end

section
theorem follow_use {w : World} {A : Around} {E Q : Value → Shared → Prop} {s : Shared} {mg mb : Str → Option Value} {g : Heap} {L : Addr} {m : Str → Option Value} {news rl others : List (Addr × Obj)} {fx sx x dx kl : Addr} {as : List Addr} {f : FrameD} {c : ScanD} {st0 : St}
    (KX : (hd.heap_1 w.params).In g) (T : TR mg mb g) (F : Fr g L s.heap m) (N : News g L s.heap news) (hsub : ∀ p ∈ rl ++ others, p ∈ news) (hoff : ∀ p ∈ others, p.1 ∉ as)
    (hf : FrameS (At g) fx f) (hok : FrameOk f) (hkd : KindOk f.kind) (hs : ScanS (At g) sx c) (hx : StateI (At s.heap) x dx kl as)
    (hr : RowsL rl as (rowsOf f.comps.length (f.n * f.n).toNat st0)) (hin : InF f c.places) (hlen : c.places.length ≤ 4) (hnd : c.places.Nodup) (h0 : 0 ≤ c.start) (h1 : c.start ≤ c.stop) (h2 : c.stop ≤ f.n * f.n - 1) (hgo : goOk c st0)
    (k : ∀ h' tk' rl', Fr g L h' m → News g L h' (rl' ++ others) → RowsL rl' as (rowsOf f.comps.length (f.n * f.n).toNat (goD c st0)) → Q .none { s with heap := h', toks := tk' })
    (hA : A.handled = none := by rfl) (hd : A.depth ≤ 420 := by decide) (hu : A.units ≤ 420 := by decide) :
    wpAny (model PR w) A (call (.ref 141) [.ref x, .ref fx, .ref sx]) Q E s := by
  have NR : ∀ a ∈ as, a ≠ L ∧ g.get? a = none := fun a ha => by
    rw [← hr.addrs] at ha
    obtain ⟨p, hp, rfl⟩ := List.mem_map.mp ha
    exact (N p (hsub p (List.mem_append_left _ hp))).2
  refine of_AA 420 420 (follow_spec ⟨KX, T⟩ F.keep (fun p hp => ?_) hf hok hkd hs hx hr hin hlen hnd h0 h1 h2 hgo fun h' tk' rl' off hin' hr' => ?_) hA hd hu
  · have z := N p (hsub p (List.mem_append_left _ hp))
    exact ⟨z.1, z.2.2⟩
  refine k h' tk' rl' ⟨F.ns.at' fun o e => off L o (fun q => (NR L q).1 rfl) e, fun b o e => off b o (fun q => by rw [(NR b q).2] at e; cases e) (F.keep b o e), F.above⟩ (fun p hp => ?_) hr'
  rcases List.mem_append.mp hp with hp | hp
  · exact ⟨hin' p hp, NR p.1 (by rw [← hr'.addrs]; exact List.mem_map_of_mem hp)⟩
  · have z := N p (hsub p (List.mem_append_right _ hp))
    exact ⟨off _ _ (hoff p hp) z.1, z.2⟩

/-- all rows hold nothing but noughts -/
def allZero (rows : List (List Int)) : Bool := rows.all fun r => r.all fun k => k == 0

theorem iscomp_spec {w : World} {x dx kl : Addr} {as : List Addr} {rows : List (List Int)} :
    Con 440 440 w 148 [.ref x, .bool false] (fun S => StateI S x dx kl as ∧ All2 (RowP S) as rows) (fun _ r => r = .bool (allZero rows)) := by
  rintro E Q s mg mb h₀ X st ⟨hx, hrows⟩ hQ
  k_dflt (refine' enter_def (binds := [(Str.ofString "self", .ref x), (Str.ofString "is_lossless", .bool false)]) (W := []) X st (fun _ h => nomatch h) ?ho ?hcd ?room ?hb ?hl ?_ ?c2 ?c3 ?c4 ?c5)
  walk_at "MY_ENTER"
  intro g L h₁ F N KX T up dn
  have up' : s.heap.StaysIn g := fun b o e => up b o e (by simp)
  obtain ⟨z1, z2, hxx, hxd, hkl, -⟩ := id hx
  replace hxx := up' _ _ hxx
  replace hxd := up' _ _ hxd
  replace hkl := (hkl.mono (S' := At g) up').isList
  replace hrows := hrows.imp (R' := RowP (At g)) fun _ _ h => h.mono up'
  clear hx up dn X st
  k_unmd
  k_fold
  k_steps
  refine ⟨?_⟩
  refine For_invV g rfl rfl (held_post ?_) (hE := PassesOwn.never)
  k_steps
  refine ⟨?_⟩
  rename Fr _ _ _ _ => F9
  rename News _ _ _ _ => N9
  refine iter_listV (fun m₀ i m nx => nx = [] ∧ allZero (rows.take i) = true ∧ Keep ["row", "low"] m₀ m) rfl hkl F9 (news_sub N9 (l' := []) (fun _ h => nomatch h)) ?start ?turn ?done
  case start => exact ⟨rfl, rfl, Keep.refl _ _⟩
  case turn =>
    clear F9 N9
    rintro i v m₁ nx h tk I oI hv hI ⟨rfl, hz, u, rfl⟩ F N
    rw [List.getElem?_map] at hv
    obtain ⟨a, ha, rfl⟩ := Option.map_eq_some_iff.mp hv
    obtain ⟨row, hrow⟩ : ∃ row, rows[i]? = some row := ⟨_, List.getElem?_eq_getElem (by rw [← hrows.length]; exact (List.getElem?_eq_some_iff.mp ha).1)⟩
    obtain ⟨a', ha', vs, n, hal, hvs⟩ := hrows.get hrow
    obtain rfl : a = a' := Option.some.inj (ha.symm.trans ha')
    have hal' : g.IsList a vs.toArray := ⟨_, hal, rfl, _, rfl⟩
    k_steps
    refine ⟨?_⟩
    refine For_invV g rfl rfl (held_post ?_) (hE := PassesOwn.never)
    k_steps
    refine ⟨?_⟩
    rename Fr _ _ _ _ => F9
    rename News _ _ _ _ => N9
    refine iter_listV (fun m₀ j m nx => nx = [(I, oI)] ∧ (row.take j).all (fun k => k == 0) = true ∧ Keep ["low"] m₀ m) rfl hal' F9 N9 ?start2 ?turn2 ?done2
    case start2 => exact ⟨rfl, rfl, Keep.refl _ _⟩
    case turn2 =>
      clear F9 N9
      rintro j v m₂ nx₂ h₂ tk₂ I₂ oI₂ hv₂ hI₂ ⟨rfl, hz₂, u₂, rfl⟩ F N
      obtain ⟨q, tq, rfl, hq⟩ := ints_get hvs hv₂
      have hno : q ≠ 0 → allZero rows = false := fun hne => by
        cases e : allZero rows with
        | false => rfl
        | true => exact absurd (by simpa using List.all_eq_true.mp (List.all_eq_true.mp e row (List.mem_of_getElem? hrow)) q (List.mem_of_getElem? hq)) hne
      k_steps
      all_goals rename Fr _ _ _ _ => F9
      all_goals rename News _ _ _ _ => N9
      · exact hQ _ _ _ [] (stays_of F9 up') (fun _ h => nomatch h) (by rw [hno (by omega)])
      · exact hQ _ _ _ [] (stays_of F9 up') (fun _ h => nomatch h) (by rw [hno (by omega)])
      · obtain rfl : q = 0 := by omega
        refine ⟨_, _, _, _, rfl, F9, N9, fun p hp => hI₂ p hp, rfl, ?_, Keep.of fun z hz => ?_⟩
        · rw [List.take_succ, hq, List.all_append, hz₂]; rfl
        · simp only [List.contains_cons, List.contains_nil, Bool.or_false, Bool.or_eq_false_iff, beq_eq_false_iff_ne] at hz
          simp [hz]
    case done2 =>
      clear F9 N9
      rintro m₂ nx₂ h₂ tk₂ ⟨rfl, hz₂, u₂, rfl⟩ F N
      k_steps
      rename Fr _ _ _ _ => F9
      rename News _ _ _ _ => N9
      rw [show vs.length = row.length from hvs.length, List.take_length] at hz₂
      refine ⟨_, _, _, [], rfl, F9, N9, (fun _ h => nomatch h), rfl, ?_, Keep.of fun z hz => ?_⟩
      · have hz2 : allZero (rows.take i) = true := hz
        unfold allZero at hz2 ⊢
        rw [List.take_succ, hrow, List.all_append, hz2]
        simp only [Option.toList_some, List.all_cons, List.all_nil, hz₂, Bool.and_self]
      · simp only [List.contains_cons, List.contains_nil, Bool.or_false, Bool.or_eq_false_iff, beq_eq_false_iff_ne] at hz
        simp [hz]
  case done =>
    clear F9 N9
    rintro m₁ nx h tk ⟨rfl, hz, u, rfl⟩ F N
    rw [show (refs as).length = rows.length from by rw [List.length_map, hrows.length], List.take_length] at hz
    k_steps
    rename Fr _ _ _ _ => F9
    rename News _ _ _ _ => N9
    exact hQ _ _ _ [] (stays_of F9 up') (fun _ h => nomatch h) (by rw [hz])
end

section
def ScanOk (f : FrameD) (c : ScanD) : Prop := PlacesOk f c.places ∧ SlotsOk c ∧ BandOk f c ∧ c.places.Nodup ∧ 0 ≤ c.start ∧ c.start ≤ c.stop ∧ c.stop ≤ f.n * f.n - 1
def runD (cs : List ScanD) (st : St) : St := cs.foldl (fun s c => goD c s) st
def runOk : List ScanD → St → Prop
  | [], _ => True
  | c :: cs, st => goOk c st ∧ runOk cs (goD c st)
def newSt : St := fun _ _ => -1
theorem runOk_at : ∀ {cs : List ScanD} {st : St}, runOk cs st → ∀ {i : Nat} {c : ScanD}, cs[i]? = some c → goOk c (runD (cs.take i) st)
  | [], _, _, i, c, e => by simp at e
  | d :: cs, st, h, 0, c, e => by simp at e; subst e; exact h.1
  | d :: cs, st, h, i + 1, c, e => by
    simp only [List.getElem?_cons_succ] at e
    exact runOk_at h.2 e
theorem runD_succ {cs : List ScanD} {st : St} {i : Nat} {c : ScanD} (e : cs[i]? = some c) : runD (cs.take (i + 1)) st = goD c (runD (cs.take i) st) := by
  unfold runD
  rw [List.take_add_one, e, List.foldl_append]; rfl
theorem rowsOf_new {α : Type} (l : List α) (M : Nat) : rowsOf l.length M newSt = l.map fun _ => List.replicate M (-1) := by
  show (List.range l.length).map (fun _ => (List.range M).map (fun _ => (-1 : Int))) = _
  simp [List.map_const']

theorem RowsL.all2 {tl as rows} {S : Addr → Obj → Prop} (h : RowsL tl as rows) : (∀ p ∈ tl, S p.1 p.2) → All2 (RowP S) as rows := by
  induction h with
  | nil => exact fun _ => .nil
  | cons x _ _ ih => exact fun k => .cons ⟨_, _, k _ (.head _), x⟩ (ih fun p hp => k p (.tail _ hp))

theorem script_spec {w : World} {fx sx : Addr} {f : FrameD} {cs : List ScanD} :
    Con 410 410 w 162 [.ref fx, .ref sx] (fun S => FrameS S fx f ∧ FrameOk f ∧ KindOk f.kind ∧ ScansS S sx cs ∧ (∀ c ∈ cs, ScanOk f c) ∧ runOk cs newSt)
      (fun S r => ∃ x dx kl as, r = .ref x ∧ StateI S x dx kl as ∧ All2 (RowP S) as (rowsOf f.comps.length (f.n * f.n).toNat (runD cs newSt))) := by
  rintro E Q s mg mb h₀ X st ⟨hf, hok, hkd, hs, hall, hrun⟩ hQ
  k_dflt (refine' enter_def (binds := [(Str.ofString "frame", .ref fx), (Str.ofString "scans", .ref sx)]) (W := []) X st (fun _ h => nomatch h) ?ho ?hcd ?room ?hb ?hl ?_ ?c2 ?c3 ?c4 ?c5)
  walk_at "MY_ENTER"
  intro g L h₁ F N KX T up dn
  have up' : s.heap.StaysIn g := fun b o e => up b o e (by simp)
  replace hf := hf.mono (S' := At g) up'
  replace hs := hs.mono (S' := At g) up'
  obtain ⟨sas, hsl, hss⟩ := hs
  replace hsl := hsl.isList
  clear up dn X st
  k_unmd
  k_fold
  k_steps
  refine state_new.use KX T (by k_asm) (by k_asm) ⟨hf.mono (Fr.keep (by k_asm)), hok⟩ fun r h' tk' tl F' N' off hp => ?_
  obtain ⟨x, dx, kl, as, rfl, ⟨e1, k1, mx, md, ⟨ok, nk, mk, ck, dk⟩, n1, n2, n3, nd⟩, hrows⟩ := hp
  obtain ⟨rl, hrl, hsubL⟩ := RowsL.of hrows nd
  k_steps
  refine ⟨?_⟩
  refine For_invV g rfl rfl (held_post ?_) (hE := PassesOwn.never)
  k_steps
  refine ⟨?_⟩
  rename Fr _ _ _ _ => F9
  rename News _ _ _ _ => N9
  rw [← rowsOf_new] at hrl
  have hIas : ∀ p ∈ [(x, instObj 151 dx), (dx, dictOf [⟨e1, .str "known" k1, .ref kl⟩] 1), (kl, ok)], p.1 ∉ as := List.forall_mem_cons.mpr ⟨n1, List.forall_mem_cons.mpr ⟨n2, List.forall_mem_cons.mpr ⟨n3, List.forall_mem_nil _⟩⟩⟩
  refine iter_listV (fun m₀ i m nx => ∃ rl, nx = rl ++ [(x, instObj 151 dx), (dx, dictOf [⟨e1, .str "known" k1, .ref kl⟩] 1), (kl, ok)] ∧ RowsL rl as (rowsOf f.comps.length (f.n * f.n).toNat (runD (cs.take i) newSt)) ∧ Keep ["scan"] m₀ m) rfl hsl F9
    (news_sub N9 (l' := rl ++ [(x, instObj 151 dx), (dx, dictOf [⟨e1, .str "known" k1, .ref kl⟩] 1), (kl, ok)]) ?sub) ?start ?turn ?done
  case sub =>
    intro p hp
    rcases List.mem_append.mp hp with hp | hp
    · exact List.mem_append_left _ (hsubL p hp)
    · have y : p ∈ tl := by
        rcases List.mem_cons.mp hp with rfl | hp
        · exact mx
        · rcases List.mem_cons.mp hp with rfl | hp
          · exact md
          · rw [List.mem_singleton.mp hp]; exact mk
      exact List.mem_append_left _ y
  case start => exact ⟨rl, rfl, hrl, Keep.refl _ _⟩
  case turn =>
    clear F9 N9 hsubL hrl off mx md mk hrows
    clear rl tl
    rintro i v m₁ nx h tk I oI hv hI ⟨rl, rfl, hrl, u, rfl⟩ F N
    rw [List.getElem?_map] at hv
    obtain ⟨sc, hsc, rfl⟩ := Option.map_eq_some_iff.mp hv
    obtain ⟨c, hc⟩ : ∃ c, cs[i]? = some c := ⟨_, List.getElem?_eq_getElem (by rw [← hss.length]; exact (List.getElem?_eq_some_iff.mp hsc).1)⟩
    obtain ⟨sc', hsc', hscS⟩ := hss.get hc
    obtain rfl : sc = sc' := Option.some.inj (hsc.symm.trans hsc')
    obtain ⟨o1, o2, o3, o4, o5, o6, o7⟩ := hall c (List.mem_of_getElem? hc)
    have hgo := runOk_at hrun hc
    k_steps
    refine places_spec.use KX T (by k_asm) (by k_asm) ⟨hf.mono (Fr.keep (by k_asm)), hok, hscS.mono (Fr.keep (by k_asm)), o1⟩ fun r h' tk' tl F' N' off hp => ?_
    subst hp
    k_steps
    refine slots_spec.use KX T (by k_asm) (by k_asm) ⟨hf.mono (Fr.keep (by k_asm)), hscS.mono (Fr.keep (by k_asm)), o2⟩ fun r h' tk' tl F' N' off hp => ?_
    subst hp
    k_steps
    refine band_spec.use KX T (by k_asm) (by k_asm) ⟨hf.mono (Fr.keep (by k_asm)), hok, hkd, hscS.mono (Fr.keep (by k_asm)), o3⟩ fun r h' tk' tl F' N' off hp => ?_
    subst hp
    k_steps
    rename Fr _ _ _ _ => F9
    rename News _ _ _ _ => N9
    have hIas2 : I ∉ as := fun hm => by
      rw [← hrl.addrs] at hm
      obtain ⟨q, hq, e⟩ := List.mem_map.mp hm
      exact hI q (List.mem_append_left _ hq) e
    have hm0 : ∀ p ∈ rl ++ [(x, instObj 151 dx), (dx, dictOf [⟨e1, .str "known" k1, .ref kl⟩] 1), (kl, ok)], h'.get? p.1 = some p.2 := fun p hp => (N9 p (List.mem_append_right _ (List.mem_append_right _ (List.mem_append_right _ (.tail _ hp))))).1
    refine follow_use (rl := rl) (others := (I, oI) :: [(x, instObj 151 dx), (dx, dictOf [⟨e1, .str "known" k1, .ref kl⟩] 1), (kl, ok)]) (x := x) (dx := dx) (kl := kl) (as := as) (c := c) (f := f) KX T F9 N9 (fun p hp => ?_) (List.forall_mem_cons.mpr ⟨hIas2, hIas⟩) hf hok hkd hscS ?hx hrl o1.2.2.1 o1.2.1 o4 o5 o6 o7 hgo fun h' tk' rl' F' N' hrl' => ?_
    case hx => exact ⟨e1, k1, hm0 (x, _) (List.mem_append_right _ (.head _)), hm0 (dx, _) (List.mem_append_right _ (.tail _ (.head _))), ⟨ok, nk, hm0 (kl, _) (List.mem_append_right _ (.tail _ (.tail _ (.head _)))), ck, dk⟩, n1, n2, n3, nd⟩
    · refine List.mem_append_right _ (List.mem_append_right _ (List.mem_append_right _ ?_))
      rcases List.mem_append.mp hp with hp | hp
      · exact .tail _ (List.mem_append_left _ hp)
      · rcases List.mem_cons.mp hp with rfl | hp
        · exact .head _
        · exact .tail _ (List.mem_append_right _ hp)
    · clear F9 N9
      k_steps
      rename Fr _ _ _ _ => F9
      rename News _ _ _ _ => N9
      refine ⟨_, _, _, rl' ++ [(x, instObj 151 dx), (dx, dictOf [⟨e1, .str "known" k1, .ref kl⟩] 1), (kl, ok)], rfl, F9, news_sub N9 fun p hp => ?_, fun p hp => ?_, rl', rfl, ?_, Keep.of fun z hz => ?_⟩
      · rcases List.mem_cons.mp hp with rfl | hp
        · exact List.mem_append_right _ (.head _)
        · rcases List.mem_append.mp hp with hp | hp
          · exact List.mem_append_left _ hp
          · exact List.mem_append_right _ (.tail _ hp)
      · rcases List.mem_append.mp hp with hp | hp
        · intro e
          exact hIas2 (e ▸ hrl'.addrs ▸ List.mem_map_of_mem hp)
        · exact hI p (List.mem_append_right _ hp)
      · rw [runD_succ hc]; exact hrl'
      · simp only [List.contains_cons, List.contains_nil, Bool.or_false, Bool.or_eq_false_iff, beq_eq_false_iff_ne] at hz
        simp [hz]
  case done =>
    clear F9 N9 hsubL hrl off mx md mk hrows
    clear rl tl
    rintro m₁ nx h tk ⟨rl, rfl, hrl, u, rfl⟩ F N
    rw [show (refs sas).length = cs.length from by rw [List.length_map, hss.length], List.take_length] at hrl
    k_steps
    rename Fr _ _ _ _ => F9
    rename News _ _ _ _ => N9
    refine hQ _ _ _ _ (stays_of F9 up') (led_of N9 up') ⟨x, dx, kl, as, rfl, ⟨e1, k1, List.mem_append_right _ (.head _), List.mem_append_right _ (.tail _ (.head _)), ⟨ok, nk, List.mem_append_right _ (.tail _ (.tail _ (.head _))), ck, dk⟩, n1, n2, n3, nd⟩, hrl.all2 fun p hp => List.mem_append_left _ hp⟩
end

section
theorem check_spec {w : World} {fx sx : Addr} {f : FrameD} {cs : List ScanD} :
    Con 400 400 w 169 [.ref fx, .ref sx] (fun S => FrameS S fx f ∧ FrameOk f ∧ KindOk f.kind ∧ ScansS S sx cs ∧ (∀ c ∈ cs, ScanOk f c) ∧ runOk cs newSt ∧ cs ≠ [] ∧ cs.length ≤ 200) (fun _ r => r = .none) := by
  rintro E Q s mg mb h₀ X st ⟨hf, hok, hkd, hs, hall, hrun, hne, hlen⟩ hQ
  k_dflt (refine' enter_def (binds := [(Str.ofString "frame", .ref fx), (Str.ofString "scans", .ref sx)]) (W := []) X st (fun _ h => nomatch h) ?ho ?hcd ?room ?hb ?hl ?_ ?c2 ?c3 ?c4 ?c5)
  walk_at "MY_ENTER"
  intro g L h₁ F N KX T up dn
  have up' : s.heap.StaysIn g := fun b o e => up b o e (by simp)
  replace hf := hf.mono (S' := At g) up'
  replace hs := hs.mono (S' := At g) up'
  obtain ⟨sas, hsl, hss⟩ := id hs
  replace hsl := hsl.isList
  have hl0 : sas.length = cs.length := hss.length
  have hpos : 0 < cs.length := List.length_pos_iff.mpr hne
  clear up dn X st
  k_unmd
  k_fold
  k_steps
  all_goals try (exfalso; omega)
  refine script_spec.use KX T (by k_asm) (by k_asm) ⟨hf.mono (Fr.keep (by k_asm)), hok, hkd, hs.mono (Fr.keep (by k_asm)), hall, hrun⟩ fun r h' tk' tl F' N' off hp => ?_
  k_steps
  rename Fr _ _ _ _ => F9
  rename News _ _ _ _ => N9
  exact hQ _ _ _ _ (stays_of F9 up') (led_of N9 up') rfl

theorem complete_spec {w : World} {fx sx : Addr} {f : FrameD} {cs : List ScanD} :
    Con 400 400 w 176 [.ref fx, .ref sx] (fun S => FrameS S fx f ∧ FrameOk f ∧ KindOk f.kind ∧ ScansS S sx cs ∧ (∀ c ∈ cs, ScanOk f c) ∧ runOk cs newSt)
      (fun _ r => r = .bool (allZero (rowsOf f.comps.length (f.n * f.n).toNat (runD cs newSt)))) := by
  rintro E Q s mg mb h₀ X st ⟨hf, hok, hkd, hs, hall, hrun⟩ hQ
  k_dflt (refine' enter_def (binds := [(Str.ofString "frame", .ref fx), (Str.ofString "scans", .ref sx)]) (W := []) X st (fun _ h => nomatch h) ?ho ?hcd ?room ?hb ?hl ?_ ?c2 ?c3 ?c4 ?c5)
  walk_at "MY_ENTER"
  intro g L h₁ F N KX T up dn
  have up' : s.heap.StaysIn g := fun b o e => up b o e (by simp)
  replace hf := hf.mono (S' := At g) up'
  replace hs := hs.mono (S' := At g) up'
  obtain ⟨sas, hsl, hss⟩ := id hs
  obtain ⟨fcs, cas, ⟨fdx, a1, a2, a3, a4, a5, a6, k1, k2, k3, k4, k5, k6, t1, v2, v3, v4, t6, hfx, hfdx⟩, hcs, hcomps⟩ := id hf
  obtain ⟨kk, hkk⟩ : ∃ kk, kk = Str.ofString f.kind := ⟨_, rfl⟩
  rw [← hkk] at hfdx
  have hnl : (kk == Str.ofString "lossless") = false := by rw [hkk]; rcases hkd with e | e | e <;> rw [e] <;> decide +kernel
  clear hkk
  clear up dn X st
  k_unmd
  k_fold
  k_steps
  refine script_spec.use KX T (by k_asm) (by k_asm) ⟨hf.mono (Fr.keep (by k_asm)), hok, hkd, hs.mono (Fr.keep (by k_asm)), hall, hrun⟩ fun r h' tk' tl F' N' off hp => ?_
  obtain ⟨x, dx, kl, as, rfl, hx, hrows⟩ := hp
  obtain ⟨e1, q1, mx, md, -⟩ := id hx
  k_steps
  rename Fr _ _ _ _ => F9
  rename News _ _ _ _ => N9
  rw [hnl]
  have hm0 : ∀ a o, On tl a o → At h' a o := fun a o ho => (N9 (a, o) (List.mem_append_left _ ho)).1
  refine (iscomp_spec (x := x) (dx := dx) (kl := kl) (as := as)).use KX T F9 N9 ⟨?hxx, hrows.imp fun _ _ y => y.mono hm0⟩ fun r h'' tk'' tl' F'' N'' off' hp' => ?_
  case hxx =>
    obtain ⟨b1, b2, c1, c2, c3, c4⟩ := hx
    exact ⟨b1, b2, hm0 _ _ c1, hm0 _ _ c2, c3.mono hm0, c4⟩
  subst hp'
  clear F9 N9
  k_steps
  rename Fr _ _ _ _ => F9
  rename News _ _ _ _ => N9
  exact hQ _ _ _ _ (stays_of F9 up') (led_of N9 up') rfl
end

section
/-- what the law asks of the groups -/
def GrpOk (f : FrameD) (gs : List (List Int)) : Prop :=
  gs.flatten = placesOf f ∧ (∀ (i : Nat) (lot : List Int), gs[i]? = some lot → lot ≠ [] ∧ lot.length ≤ 4 ∧ (1 < lot.length → sumMs f lot ≤ 10)) ∧
    (∀ (i : Nat) (lot : List Int) (p : Int) (nxt : List Int), gs[i]? = some lot → gs[i + 1]? = some (p :: nxt) → lot.length < 4 → 10 < sumMs f (lot ++ [p]))

theorem gright_spec {w : World} {fx lx : Addr} {f : FrameD} {gs : List (List Int)} :
    Con 470 470 w 365 [.ref fx, .ref lx] (fun S => FrameS S fx f ∧ FrameOk f ∧ ListsS S lx gs ∧ GrpOk f gs ∧ gs.length ≤ 7) (fun _ r => r = .bool true) := by
  rintro E Q s mg mb h₀ X st ⟨hf, hok, hl, ⟨hg1, hg2, hg3⟩, hlen⟩ hQ
  k_dflt (refine' enter_def (binds := [(Str.ofString "frame", .ref fx), (Str.ofString "told", .ref lx)]) (W := []) X st (fun _ h => nomatch h) ?ho ?hcd ?room ?hb ?hl ?_ ?c2 ?c3 ?c4 ?c5)
  walk_at "MY_ENTER"
  intro g L h₁ F N KX T up dn
  have up' : s.heap.StaysIn g := fun b o e => up b o e (by simp)
  replace hf := hf.mono (S' := At g) up'
  replace hl := hl.mono (S' := At g) up'
  obtain ⟨las, hll, hlots⟩ := id hl
  replace hll := hll.isList
  obtain ⟨fcs, cas, ⟨fdx, a1, a2, a3, a4, a5, a6, k1, k2, k3, k4, k5, k6, t1, v2, v3, v4, t6, hfx, hfdx⟩, hcs, hcomps⟩ := id hf
  replace hcs := hcs.isList
  have hcl : cas.length = f.comps.length := hcomps.length
  have hgl : las.length = gs.length := hlots.length
  obtain ⟨hok1, hok2, hok3, hok4, hok5⟩ := id hok
  clear up dn X st
  k_unmd
  k_fold
  k_steps
  refine ⟨?_⟩
  refine For_invV g rfl rfl (held_post ?_) (hE := PassesOwn.never)
  k_steps
  refine ⟨?_⟩
  rename Fr _ _ _ _ => F9
  rename News _ _ _ _ => N9
  refine iter_listV (fun m₀ i m nx => ∃ a vs n, nx = [(a, W.listOf vs.toArray n)] ∧ IntsAre vs (gs.take i).flatten ∧ Keep1 ["lot"] "strung" (.ref a) m₀ m) rfl hll F9 N9 ?start ?turn ?done
  case start =>
    exact ⟨_, [], _, rfl, .nil, Keep1.of rfl fun _ _ _ => rfl⟩
  case turn =>
    clear F9 N9
    rintro i v m₁ nx h tk I oI hv hI ⟨a, vs, n, rfl, hvs, u, rfl⟩ F N
    rw [List.getElem?_map] at hv
    obtain ⟨la, hla, rfl⟩ := Option.map_eq_some_iff.mp hv
    obtain ⟨lot, hlot⟩ : ∃ lot, gs[i]? = some lot := ⟨_, List.getElem?_eq_getElem (by rw [← hlots.length]; exact (List.getElem?_eq_some_iff.mp hla).1)⟩
    obtain ⟨la', hla', lvs, hlvl, hlvs⟩ := hlots.get hlot
    obtain rfl : la = la' := Option.some.inj (hla.symm.trans hla')
    replace hlvl := hlvl.isList
    obtain ⟨-, b1, -⟩ := hg2 i lot hlot
    have hlv : lvs.length = lot.length := hlvs.length
    have hvl : vs.length ≤ 6 := by
      rw [hvs.length]
      have := congrArg List.length hg1
      rw [← List.take_append_drop i gs, List.flatten_append, List.length_append] at this
      have h2 : (placesOf f).length = f.comps.length := rangeKs_length _ _
      omega
    k_steps
    rename Fr _ _ _ _ => F9
    rename News _ _ _ _ => N9
    refine ⟨_, _, _, [(_, _)], rfl, F9, news_sub N9 (l' := [(I, oI), (_, _)]) (List.forall_mem_cons.mpr ⟨by k_mem, List.forall_mem_cons.mpr ⟨.head _, List.forall_mem_nil _⟩⟩), List.forall_mem_cons.mpr ⟨by k_ne, List.forall_mem_nil _⟩, _, _, _, rfl, ?hvs2, Keep1.of rfl fun z hz z1 => ?kp⟩
    case hvs2 =>
      rw [List.take_add_one, hlot, List.flatten_append]
      simpa using hvs.append hlvs
    case kp =>
      simp only [List.contains_cons, List.contains_nil, Bool.or_false, Bool.or_eq_false_iff, beq_eq_false_iff_ne] at hz
      simp [hz, z1]
  case done =>
    clear F9 N9
    rintro m₁ nx h tk ⟨a, vs, n, rfl, hvs, u, rfl⟩ F N
    rw [show (refs las).length = gs.length from by rw [List.length_map, hlots.length], List.take_length] at hvs
    k_steps
    refine ⟨?_⟩
    refine range_K (n := cas.length) (by k_asm) (by k_asm) (by omega) fun r h' tk' t₀ u₀ v₀ F' N' hr => ?_
    k_steps
    refine list_rangeK (by k_asm) (by k_asm) hr (by omega) fun D us c h' tk' F' N' l1 hus => ?_
    rw [hcl] at hus
    k_steps
    rotate_left
    · exact absurd hg1 (by assumption)
    refine ⟨?_⟩
    refine For_invV g rfl rfl ?_ (hE := PassesOwn.never)
    k_steps
    refine ⟨?_⟩
    rename Fr _ _ _ _ => F9
    rename News _ _ _ _ => N9
    refine loop_range1 (n := gs.length) (fun m₀ i m nx => nx = [] ∧ Keep ["at", "lot"] m₀ m) rfl (by omega) (by omega) F9 (news_sub N9 (l' := []) (fun _ h => nomatch h)) ?start2 ?turn2 ?done2
    case start2 => exact ⟨rfl, Keep.refl _ _⟩
    case turn2 =>
      clear F9 N9
      rintro i ti m₂ nx₂ h₂ tk₂ I₂ oI₂ hi hI₂ ⟨rfl, u₂, rfl⟩ F N
      obtain ⟨lot, hlot⟩ : ∃ lot, gs[i]? = some lot := ⟨_, List.getElem?_eq_getElem hi⟩
      obtain ⟨la, hla, lvs, hlvl, hlvs⟩ := hlots.get hlot
      replace hlvl := hlvl.isList
      have hla' : las[(i : Int).toNat]? = some la := hla
      obtain ⟨b0, b1, b2⟩ := hg2 i lot hlot
      have hlv : lvs.length = lot.length := hlvs.length
      have hinL : ∀ (j : Nat) (l : List Int), gs[j]? = some l → InF f l := fun j l hl p hp => by
        have hm : p ∈ gs.flatten := List.mem_flatten.mpr ⟨l, List.mem_of_getElem? hl, hp⟩
        rw [hg1] at hm
        have hb := mem_rangeKs hm
        exact ⟨hb.1, by omega⟩
      have hinF := hinL i lot hlot
      k_steps
      · refine (lblocks_spec (ps := lot)).use KX T (by k_asm) (by k_asm) ⟨hf.mono (Fr.keep (by k_asm)), hok, ⟨lvs, isList_LstS (by is_list), hlvs⟩, hinF, by omega⟩ fun r h' tk' tl F' N' off hp => ?_
        obtain ⟨tb, rfl⟩ := hp
        have hb3 := b2 (by omega)
        k_steps
        all_goals try (exfalso; omega)
        all_goals (first
      | (rename Fr _ _ _ _ => F9
         rename News _ _ _ _ => N9
         refine ⟨_, _, _, [], rfl, F9, news_sub N9 (l' := [(I₂, oI₂)]) (List.forall_mem_cons.mpr ⟨by k_mem, List.forall_mem_nil _⟩), (fun _ h => nomatch h), rfl, Keep.of fun z hz => ?_⟩
         simp only [List.contains_cons, List.contains_nil, Bool.or_false, Bool.or_eq_false_iff, beq_eq_false_iff_ne] at hz
         simp [hz])
      | (have hi1 : i + 1 < gs.length := by omega
         obtain ⟨lot2, hlot2⟩ : ∃ lot2, gs[i + 1]? = some lot2 := ⟨_, List.getElem?_eq_getElem hi1⟩
         obtain ⟨la2, hla2, lvs2, hlvl2, hlvs2⟩ := hlots.get hlot2
         replace hlvl2 := hlvl2.isList
         have hla2' : las[((i : Int) + 1).toNat]? = some la2 := by rw [show ((i : Int) + 1).toNat = i + 1 from by omega]; exact hla2
         obtain ⟨c0, c1, -⟩ := hg2 _ lot2 hlot2
         have hinF2 := hinL _ _ hlot2
         obtain ⟨p, nxt, rfl⟩ := List.exists_cons_of_ne_nil c0
         have hv2 : lvs2.length = nxt.length + 1 := hlvs2.length
         k_steps
         have hgt := hg3 i lot p nxt hlot hlot2 (by omega)
         refine (lblocks_spec (ps := lot ++ [p])).use KX T (by k_asm) (by k_asm) ⟨hf.mono (Fr.keep (by k_asm)), hok, ⟨lvs ++ [.int p _], isList_LstS (by is_list), hlvs.append (.cons _ _ .nil)⟩, ?inF, by (simp only [List.length_append, List.length_singleton]; omega)⟩ fun r h' tk' tl F' N' off hp => ?_
         case inF =>
           intro q hq
           rcases List.mem_append.mp hq with hq | hq
           · exact hinF q hq
           · exact hinF2 q (by rw [List.mem_singleton.mp hq]; exact .head _)
         obtain ⟨tb, rfl⟩ := hp
         k_steps
         all_goals try (exfalso; omega)
         rename Fr _ _ _ _ => F9
         rename News _ _ _ _ => N9
         refine ⟨_, _, _, [], rfl, F9, news_sub N9 (l' := [(I₂, oI₂)]) (List.forall_mem_cons.mpr ⟨by k_mem, List.forall_mem_nil _⟩), (fun _ h => nomatch h), rfl, Keep.of fun z hz => ?_⟩
         simp only [List.contains_cons, List.contains_nil, Bool.or_false, Bool.or_eq_false_iff, beq_eq_false_iff_ne] at hz
         simp [hz]))
      all_goals (first
      | (rename Fr _ _ _ _ => F9
         rename News _ _ _ _ => N9
         refine ⟨_, _, _, [], rfl, F9, news_sub N9 (l' := [(I₂, oI₂)]) (List.forall_mem_cons.mpr ⟨by k_mem, List.forall_mem_nil _⟩), (fun _ h => nomatch h), rfl, Keep.of fun z hz => ?_⟩
         simp only [List.contains_cons, List.contains_nil, Bool.or_false, Bool.or_eq_false_iff, beq_eq_false_iff_ne] at hz
         simp [hz])
      | (have hi1 : i + 1 < gs.length := by omega
         obtain ⟨lot2, hlot2⟩ : ∃ lot2, gs[i + 1]? = some lot2 := ⟨_, List.getElem?_eq_getElem hi1⟩
         obtain ⟨la2, hla2, lvs2, hlvl2, hlvs2⟩ := hlots.get hlot2
         replace hlvl2 := hlvl2.isList
         have hla2' : las[((i : Int) + 1).toNat]? = some la2 := by rw [show ((i : Int) + 1).toNat = i + 1 from by omega]; exact hla2
         obtain ⟨c0, c1, -⟩ := hg2 _ lot2 hlot2
         have hinF2 := hinL _ _ hlot2
         obtain ⟨p, nxt, rfl⟩ := List.exists_cons_of_ne_nil c0
         have hv2 : lvs2.length = nxt.length + 1 := hlvs2.length
         k_steps
         have hgt := hg3 i lot p nxt hlot hlot2 (by omega)
         refine (lblocks_spec (ps := lot ++ [p])).use KX T (by k_asm) (by k_asm) ⟨hf.mono (Fr.keep (by k_asm)), hok, ⟨lvs ++ [.int p _], isList_LstS (by is_list), hlvs.append (.cons _ _ .nil)⟩, ?inF, by (simp only [List.length_append, List.length_singleton]; omega)⟩ fun r h' tk' tl F' N' off hp => ?_
         case inF =>
           intro q hq
           rcases List.mem_append.mp hq with hq | hq
           · exact hinF q hq
           · exact hinF2 q (by rw [List.mem_singleton.mp hq]; exact .head _)
         obtain ⟨tb, rfl⟩ := hp
         k_steps
         all_goals try (exfalso; omega)
         rename Fr _ _ _ _ => F9
         rename News _ _ _ _ => N9
         refine ⟨_, _, _, [], rfl, F9, news_sub N9 (l' := [(I₂, oI₂)]) (List.forall_mem_cons.mpr ⟨by k_mem, List.forall_mem_nil _⟩), (fun _ h => nomatch h), rfl, Keep.of fun z hz => ?_⟩
         simp only [List.contains_cons, List.contains_nil, Bool.or_false, Bool.or_eq_false_iff, beq_eq_false_iff_ne] at hz
         simp [hz]))
    case done2 =>
      clear F9 N9
      rintro m₂ nx₂ h₂ tk₂ ⟨rfl, u₂, rfl⟩ F N
      k_steps
      rename Fr _ _ _ _ => F9
      rename News _ _ _ _ => N9
      exact hQ _ _ _ [] (stays_of F9 up') (fun _ h => nomatch h) rfl
end

section
def LawS (S : Addr → Obj → Prop) (a : Addr) (c : ScanD) : Prop :=
  ∃ pl dc ac t4 t5 t6 t7, LstS S a [.ref pl, .ref dc, .ref ac, .int c.start t4, .int c.stop t5, .int c.high t6, .int c.low t7] ∧ IntsS S pl c.places ∧ IntsS S dc c.dc ∧ IntsS S ac c.ac
theorem LawS.mono {S S' : Addr → Obj → Prop} {a c} (h : LawS S a c) (k : ∀ a o, S a o → S' a o) : LawS S' a c :=
  let ⟨pl, dc, ac, t4, t5, t6, t7, z, x⟩ := h; ⟨pl, dc, ac, t4, t5, t6, t7, z.mono k, x.1.mono k, x.2.1.mono k, x.2.2.mono k⟩
def LawsS (S : Addr → Obj → Prop) (a : Addr) (cs : List ScanD) : Prop := ∃ as, LstS S a (refs as) ∧ All2 (LawS S) as cs
theorem LawsS.mono {S S' : Addr → Obj → Prop} {a c} (h : LawsS S a c) (k : ∀ a o, S a o → S' a o) : LawsS S' a c := let ⟨as, x, y⟩ := h; ⟨as, x.mono k, y.imp fun _ _ z => z.mono k⟩

theorem row_spec {w : World} {sx : Addr} {c : ScanD} :
    Con 480 480 w 372 [.ref sx] (fun S => ScanS S sx c ∧ SlotsOk c) (fun S r => ∃ a, r = .ref a ∧ LawS S a c) := by
  rintro E Q s mg mb h₀ X st ⟨hs, hso⟩ hQ
  k_dflt (refine' enter_def (binds := [(Str.ofString "scan", .ref sx)]) (W := []) X st (fun _ h => nomatch h) ?ho ?hcd ?room ?hb ?hl ?_ ?c2 ?c3 ?c4 ?c5)
  walk_at "MY_ENTER"
  intro g L h₁ F N KX T up dn
  have up' : s.heap.StaysIn g := fun b o e => up b o e (by simp)
  replace hs := hs.mono (S' := At g) up'
  obtain ⟨pl, dc, ac, ⟨sd, e1, e2, e3, e4, e5, e6, e7, q1, q2, q3, q4, q5, q6, q7, u4, u5, u6, u7, hsx, hsd⟩, ⟨vp, hpl, hvp⟩, ⟨vd, hdl, hvd⟩, ⟨va, hal, hva⟩⟩ := id hs
  replace hpl := hpl.isList
  replace hdl := hdl.isList
  replace hal := hal.isList
  have hvpl := hvp.length
  have hvdl := hvd.length
  have hval := hva.length
  obtain ⟨hs1, hs2, hs3, hs4⟩ := id hso
  clear up dn X st
  k_unmd
  k_fold
  k_steps
  rename Fr _ _ _ _ => F9
  rename News _ _ _ _ => N9
  exact hQ _ _ _ _ (stays_of F9 up') (led_of N9 up') ⟨_, rfl, _, _, _, _, _, _, _, ⟨_, _, .head _, rfl, rfl⟩, ⟨vp, ⟨_, _, .tail _ (.tail _ (.tail _ (.head _))), rfl, rfl⟩, hvp⟩, ⟨vd, ⟨_, _, .tail _ (.tail _ (.head _)), rfl, rfl⟩, hvd⟩, ⟨va, ⟨_, _, .tail _ (.head _), rfl, rfl⟩, hva⟩⟩

theorem lscan_spec {w : World} {pl : Addr} {ps : List Int} {a b c d : Int} {t1 t2 t3 t4 : Tok} : Con 480 480 w 377 [.ref pl, .int a t1, .int b t2, .int c t3, .int d t4] (fun S => IntsS S pl ps ∧ ps.length ≤ 1000)
    (fun S r => ∃ x, r = .ref x ∧ LawS S x (mkScan ps a b c d)) := by
  rintro E Q s mg mb h₀ X st ⟨⟨vs, hpl, hi⟩, hlen⟩ hQ
  k_dflt (refine' enter_def (binds := [(Str.ofString "places", .ref pl), (Str.ofString "start", .int a t1), (Str.ofString "end", .int b t2), (Str.ofString "high", .int c t3), (Str.ofString "low", .int d t4)]) (W := []) X st (fun _ h => nomatch h) ?ho ?hcd ?room ?hb ?hl ?_ ?c2 ?c3 ?c4 ?c5)
  walk_at "MY_ENTER"
  intro g L h₁ F N KX T up dn
  have up' : s.heap.StaysIn g := fun b o e => up b o e (by simp)
  replace hpl := (hpl.mono (S' := At g) up').isList
  clear up dn X st
  k_unmd
  k_fold
  k_steps
  refine ⟨?_⟩
  rename Fr _ _ _ _ => F9
  rename News _ _ _ _ => N9
  k_dflt (refine' comp_assign (cl := []) F9 ?sw rfl ?clo ?cell ?kind ?nm ?x ?y ?p ?_)
  walk_at "MY_COMP"
  k_steps
  refine CompAt.base (MapI slotOf) hpl (intV_of hi) (by k_asm) (by k_asm) (by rw [hi.length, sizeLine_eq]; omega) (fun C => ?elt) (fun D h' tk ys made n F' N' oD mN hB => ?fin)
  case elt =>
    clear F9 N9
    intro s' v k oC rest mC hk hv _ F N sub nsC hm
    obtain ⟨t, rfl⟩ := hv
    refine held_post ?_
    k_steps
    · exact ⟨⟨_, _, [], rfl, F, N, (fun _ h => nomatch h), _, by simp [slotOf, *]; rfl⟩⟩
    · exact ⟨⟨_, _, [], rfl, F, N, (fun _ h => nomatch h), _, by simp [slotOf, *]; rfl⟩⟩
  case fin =>
    clear F9 N9
    have hsl := hB.ints
    have hyl := hB.length
    have hvl := hi.length
    k_steps
    rename_i l9 h9 F9 N9 l19
    exact hQ _ _ _ _ (stays_of F9 up') (led_of N9 up') ⟨_, rfl, _, D, D, _, _, _, _, ⟨_, _, .head _, rfl, rfl⟩, ⟨vs, ⟨_, _, .tail _ (.head _), rfl, rfl⟩, hi⟩, ⟨ys, ⟨_, n, by k_mem, rfl, rfl⟩, hsl⟩, ⟨ys, ⟨_, n, by k_mem, rfl, rfl⟩, hsl⟩⟩
end

section
def stepsD (f : FrameD) : List (List Int) :=
  if f.comps.length = 3 then [[0, 1, cutOf f, 0, 2], [2, 1, lastOf f, 0, 1], [1, 1, lastOf f, 0, 1], [0, 6, lastOf f, 0, 2], [0, 1, lastOf f, 2, 1]]
  else (placesOf f).map (fun p => [p, 1, cutOf f, 0, 2]) ++ (placesOf f).map (fun p => [p, 6, lastOf f, 0, 2]) ++ (placesOf f).map (fun p => [p, 1, lastOf f, 2, 1])
def stepScan (st : List Int) : ScanD := mkScan [st.getD 0 0] (st.getD 1 0) (st.getD 2 0) (st.getD 3 0) (st.getD 4 0)
def laterD (f : FrameD) : List Int := if f.comps.length = 3 then [2, 1, 0] else placesOf f
def bandsD (f : FrameD) (gs : List (List Int)) : List ScanD :=
  gs.map (fun g => mkScan g 0 0 0 1) ++ ((stepsD f).filter fun s => decide (s.getD 1 0 ≤ s.getD 2 0)).map stepScan ++ gs.map (fun g => mkScan g 0 0 1 0) ++ ((laterD f).filter fun _ => decide (lastOf f > 0)).map fun p => mkScan [p] 1 (lastOf f) 1 0

local macro_rules | `(tactic| walk_at "MY_SUB2") => `(tactic| (intro a9 o9 h9; (repeat (first | exact h9 | exact List.mem_append_left _ h9 | refine List.mem_cons_of_mem _ ?_ | refine List.mem_append_right _ ?_))))
theorem stepsD_len (f : FrameD) (hok : FrameOk f) : (stepsD f).length ≤ 18 := by
  have h1 : (placesOf f).length = f.comps.length := rangeKs_length _ _
  have h2 := hok.2.1
  unfold stepsD
  split
  · simp
  · simp only [List.length_append, List.length_map]; omega
theorem stepsD_each (f : FrameD) : ∀ st ∈ stepsD f, st.length = 5 := by
  intro st h
  unfold stepsD at h
  split at h
  · simp only [List.mem_cons, List.not_mem_nil, or_false] at h
    rcases h with rfl | rfl | rfl | rfl | rfl <;> rfl
  · simp only [List.mem_append, List.mem_map] at h
    rcases h with (⟨_, _, rfl⟩ | ⟨_, _, rfl⟩) | ⟨_, _, rfl⟩ <;> rfl
theorem stepsD_three (f : FrameD) (h : f.comps.length = 3) : stepsD f = [[0, 1, cutOf f, 0, 2], [2, 1, lastOf f, 0, 1], [1, 1, lastOf f, 0, 1], [0, 6, lastOf f, 0, 2], [0, 1, lastOf f, 2, 1]] := if_pos h
theorem stepsD_other (f : FrameD) (h : ¬f.comps.length = 3) : stepsD f = (placesOf f).map (fun p => [p, 1, cutOf f, 0, 2]) ++ (placesOf f).map (fun p => [p, 6, lastOf f, 0, 2]) ++ (placesOf f).map (fun p => [p, 1, lastOf f, 2, 1]) := if_neg h
theorem laterD_three (f : FrameD) (h : f.comps.length = 3) : laterD f = [2, 1, 0] := if_pos h
theorem laterD_other (f : FrameD) (h : ¬f.comps.length = 3) : laterD f = placesOf f := if_neg h
theorem laterD_len (f : FrameD) (hok : FrameOk f) : (laterD f).length ≤ 6 := by
  have h1 : (placesOf f).length = f.comps.length := rangeKs_length _ _
  have h2 := hok.2.1
  unfold laterD
  split
  · simp
  · omega
theorem ints5 {a b c d e : Int} {t1 t2 t3 t4 t5 : Tok} : IntsAre [.int a t1, .int b t2, .int c t3, .int d t4, .int e t5] [a, b, c, d, e] := .cons _ _ (.cons _ _ (.cons _ _ (.cons _ _ (.cons _ _ .nil))))

theorem TestOk.one {β : Type} {prog : Program} {w : World} {A : Around} {cenv : Env} {g : Heap} {L : Addr} {m : Str → Option Value} {news : List (Addr × Obj)} {x : Str} {c : PySem.Expr} {RV : Value → β → Prop} {ks : List β} {p : β → Bool}
    (h : ∀ (s : Shared) (v : Value) (k : β) (oC : Obj) (rest : List (Addr × Obj)) (mC : Str → Option Value), k ∈ ks → RV v k → Fr g L s.heap m → News g L s.heap ((cenv.locals, oC) :: rest) → (∀ q ∈ news, q ∈ rest) → (∀ h' : Heap, h'.get? cenv.locals = some oC → h'.Ns cenv.locals mC) → mC x = some v →
      wpAny (model prog w) A (isTrue c cenv (eval c cenv)) (fun ok s' => ok = p k ∧ ∃ h' tk, s' = { s with heap := h', toks := tk } ∧ Fr g L h' m ∧ News g L h' ((cenv.locals, oC) :: rest)) (fun _ _ => False) s) :
    TestOk prog w A cenv g L m news x [c] RV ks p := fun s v k oC rest mC h1 h2 h3 h4 h5 h6 h7 => by
  rw [List.forIn_cons, if_pos rfl]
  exact wpAny_bind (wpAny_bind (wpAny_mono (h s v k oC rest mC h1 h2 h3 h4 h5 h6 h7) (fun ok s' hq => wpAny_pure (wpAny_pure hq)) fun _ _ e => e))

theorem bands_spec {w : World} {fx lx : Addr} {f : FrameD} {gs : List (List Int)} :
    Con 470 470 w 382 [.ref fx, .ref lx] (fun S => FrameS S fx f ∧ FrameOk f ∧ ListsS S lx gs ∧ gs.length ≤ 7 ∧ (∀ l ∈ gs, l.length ≤ 4)) (fun S r => ∃ a, r = .ref a ∧ LawsS S a (bandsD f gs)) := by
  rintro E Q s mg mb h₀ X st ⟨hf, hok, hl, hlen, hlot⟩ hQ
  k_dflt (refine' enter_cells (binds := [(Str.ofString "frame", .ref fx), (Str.ofString "lots", .ref lx)]) (W := []) X st (fun _ h => nomatch h) ?ho ?hcd ?room ?hb ?hkd ?hnd ?_ ?c2 ?c3 ?c4)
  walk_at "MY_CELLS"
  intro g L h₁ tk cells F N Y KX T up dn
  k_cells Y
  rename_i o1 d1
  replace d1 : o1.data = .cell none := d1
  simp only [List.cons_append, List.nil_append] at N
  have up' : s.heap.StaysIn g := fun b o e => up b o e (by simp)
  replace hf := hf.mono (S' := At g) up'
  replace hl := hl.mono (S' := At g) up'
  obtain ⟨cs, as, ⟨dx, a1, a2, a3, a4, a5, a6, k1, k2, k3, k4, k5, k6, t1, v2, v3, v4, t6, hx, hdx⟩, hcs, hcomps⟩ := id hf
  have hcl := hcs.isList
  have hal := hcomps.length
  obtain ⟨las, hll, hlots⟩ := id hl
  replace hll := hll.isList
  have hgl := hlots.length
  obtain ⟨hok1, hok2, hok3, hok4, hok5⟩ := id hok
  clear up dn X st
  k_unmd
  k_fold
  k_steps
  refine ⟨?_⟩
  refine range_K (n := as.length) (by k_asm) (by k_asm) (by omega) fun r h' tk' t₀ u₀ v₀ F' N' hr => ?_
  k_steps
  refine list_rangeK (by k_asm) (by k_asm) hr (by omega) fun D us c h' tk' F' N' l1 hus => ?_
  rw [hal] at hus
  have hpl : (placesOf f).length = f.comps.length := rangeKs_length _ _
  have hrl : (rangeKs 0 f.comps.length).length = f.comps.length := rangeKs_length _ _
  have hus2 : us.length = f.comps.length := by rw [hus.length, rangeKs_length]
  k_steps
  refine ⟨?_⟩
  rename Fr _ _ _ _ => F9
  rename News _ _ _ _ => N9
  rename _ = Data.cell (some (Value.int (f.n * f.n - 1) _)) => d2
  have N9 := news_sub N9 (l' := [(D, W.listOf us.toArray c), (L + 1, _)]) (List.forall_mem_cons.mpr ⟨.tail _ (.head _), List.forall_mem_cons.mpr ⟨.tail _ (.tail _ (.head _)), List.forall_mem_nil _⟩⟩)
  k_dflt (refine' comp_assign (cl := []) F9 ?sw rfl ?clo ?cell ?kind ?nm ?x ?y ?p0 ?_)
  walk_at "MY_COMP"
  case p0 => with_unfolding_all rfl
  k_steps
  refine CompAt.base (RefR fun S x ps => LawS S x (mkScan ps 0 0 0 1)) hll (refV_of hlots) F9 N9 (by rw [List.length_map, sizeLine_eq]; omega) (fun C => ?elt1) (fun D1 h' tk xs1 made1 n1 F' N' oD1 mN1 hB1 => ?fin1)
  case elt1 =>
    clear F9 N9
    intro s' v ps oC rest mC hps hv _ F N sub nsC hm
    obtain ⟨a, rfl, ha⟩ := hv
    have hpl := hlot ps hps
    k_steps
    refine (lscan_spec (ps := ps)).use KX T F N ⟨ha.mono F.keep, by omega⟩ fun r h' tk' tl' F' N' off hp => ?_
    obtain ⟨x, rfl, hx⟩ := hp
    k_unfold
    exact ⟨_, _, tl', rfl, F', N', off, x, rfl, hx⟩
  obtain ⟨as1, rfl, hxs1⟩ := hB1.refs (P := fun S x ps => LawS S x (mkScan ps 0 0 0 1)) (fun k h => h.mono k)
  have hl1 : as1.length ≤ 7 := by rw [hxs1.length]; exact hlen
  clear F9 N9
  k_steps
  · rename Fr _ _ _ _ => F9
    rename News _ _ _ _ => N9
    obtain ⟨r5, r4, r3, r2, r1, nws, N9, hst, hsas, hsl, md, mc, m1⟩ : ∃ r5 r4 r3 r2 r1 nws, News g _ _ nws ∧ LstS (On nws) _ (refs [r5, r4, r3, r2, r1]) ∧ All2 (IntsS (On nws)) [r5, r4, r3, r2, r1] (stepsD f) ∧ (stepsD f).length ≤ 18 ∧ (D, W.listOf us.toArray c) ∈ nws ∧ (L + 1, _) ∈ nws ∧ (∀ p ∈ (D1, W.listOf (refs as1).toArray n1) :: made1, p ∈ nws) :=
      ⟨_, _, _, _, _, _, N9, ⟨_, _, .head _, rfl, rfl⟩, by
        rw [stepsD_three f (by omega)]
        exact .cons ⟨_, ⟨_, _, by k_mem, rfl, rfl⟩, ints5⟩ (.cons ⟨_, ⟨_, _, by k_mem, rfl, rfl⟩, ints5⟩ (.cons ⟨_, ⟨_, _, by k_mem, rfl, rfl⟩, ints5⟩ (.cons ⟨_, ⟨_, _, by k_mem, rfl, rfl⟩, ints5⟩ (.cons ⟨_, ⟨_, _, by k_mem, rfl, rfl⟩, ints5⟩ .nil)))), stepsD_len f hok, by k_mem, by k_mem, by walk_at "MY_SUB"⟩
    refine ⟨?_⟩
    have hsal := hsas.length
    k_dflt (refine' comp_eval F9 rfl ?clo ?cell ?kind ?nm ?x ?_)
    walk_at "MY_COMP"
    k_steps
    refine CompAt.on (RefR fun S x st => LawS S x (stepScan st)) (p := fun st => decide (st.getD 1 0 ≤ st.getD 2 0)) hst (refV_of hsas) F9 N9 (by rw [List.length_map, sizeLine_eq]; omega) (fun C => ?test5) (fun C => ?elt5) (fun D5 h' tk xs5 made5 n5 F' N' oD5 mN5 hB5 => ?fin5)
    case test5 =>
      clear F9 N9
      refine TestOk.one ?_
      intro s' v stp oC rest mC hps hv F N sub nsC hm
      obtain ⟨a, rfl, vs, hl5, hvs⟩ := hv
      have h5 := stepsD_each f stp hps
      have hv5 : vs.length = 5 := hvs.length.trans h5
      have hsz : s'.heap.IsList a vs.toArray := isList_on (tl := nws) N hl5 fun p hp => .tail _ (sub p hp)
      refine held_post ?_
      k_steps
      exact ⟨⟨rfl, _, _, rfl, by k_asm, by k_asm⟩⟩
    case elt5 =>
      clear F9 N9
      intro s' v stp oC rest mC hps hv _ F N sub nsC hm
      obtain ⟨a, rfl, vs, hl5, hvs⟩ := hv
      have h5 := stepsD_each f stp hps
      have hv5 : vs.length = 5 := hvs.length.trans h5
      have hl5 := hl5.mono (S' := On rest) fun _ _ h => sub _ h
      k_steps
      rename _ ∧ AllLt _ _ => l1
      refine (lscan_spec (ps := [stp.getD 0 0])).use KX T (by k_asm) (by k_asm) ⟨⟨[.int (stp.getD 0 0) _], isList_LstS (by is_list), .cons _ _ .nil⟩, by simp⟩ fun r h' tk' tl' F' N' off hp => ?_
      obtain ⟨x, rfl, hx⟩ := hp
      k_unfold
      exact ⟨_, _, tl' ++ [(_, _)], rfl, F', by rw [List.append_assoc]; exact N', off_elt off l1, x, rfl, hx.mono fun _ _ h => List.mem_append_left _ h⟩
    obtain ⟨as5, rfl, hxs5⟩ := hB5.refs (P := fun S x st => LawS S x (stepScan st)) (fun k h => h.mono k)
    have hl5 : as5.length ≤ 18 := by rw [hxs5.length]; exact Nat.le_trans (List.length_filter_le _ _) hsl
    have md1 := m1 _ (.head _)
    clear F9 N9
    k_steps
    refine ⟨?_⟩
    rename Fr _ _ _ _ => F9
    rename News _ _ _ _ => N9
    k_dflt (refine' comp_eval F9 rfl ?clo ?cell ?kind ?nm ?x ?_)
    walk_at "MY_COMP"
    k_steps
    refine CompAt.base (RefR fun S x ps => LawS S x (mkScan ps 0 0 1 0)) hll (refV_of hlots) F9 N9 (by rw [List.length_map, sizeLine_eq]; omega) (fun C => ?elt6) (fun D6 h' tk xs6 made6 n6 F' N' oD6 mN6 hB6 => ?fin6)
    case elt6 =>
      clear F9 N9
      intro s' v ps oC rest mC hps hv _ F N sub nsC hm
      obtain ⟨a, rfl, ha⟩ := hv
      have hpl := hlot ps hps
      k_steps
      refine (lscan_spec (ps := ps)).use KX T F N ⟨ha.mono F.keep, by omega⟩ fun r h' tk' tl' F' N' off hp => ?_
      obtain ⟨x, rfl, hx⟩ := hp
      k_unfold
      exact ⟨_, _, tl', rfl, F', N', off, x, rfl, hx⟩
    obtain ⟨as6, rfl, hxs6⟩ := hB6.refs (P := fun S x ps => LawS S x (mkScan ps 0 0 1 0)) (fun k h => h.mono k)
    have hl6 : as6.length ≤ 7 := by rw [hxs6.length]; exact hlen
    clear F9 N9
    k_steps
    all_goals try (exfalso; omega)
    refine ⟨?_⟩
    rename Fr _ _ _ _ => F9
    rename News _ _ _ _ => N9
    k_dflt (refine' comp_eval F9 rfl ?clo ?cell ?kind ?nm ?x ?_)
    walk_at "MY_COMP"
    k_steps
    refine CompAt.on (RefR fun S x p => LawS S x (mkScan [p] 1 (lastOf f) 1 0)) (p := fun _ => decide (lastOf f > 0)) (ks := laterD f) (vs := [.int 2 _, .int 1 _, .int 0 _]) ⟨_, _, .head _, rfl, rfl⟩ (by rw [laterD_three f (by omega)]; exact intV_of (.cons _ _ (.cons _ _ (.cons _ _ .nil)))) F9 N9 (by first | (rw [hus2, sizeLine_eq]; omega) | (simp [sizeLine_eq])) (fun C => ?test7) (fun C => ?elt7) (fun D7 h' tk xs7 made7 n7 F' N' oD7 mN7 hB7 => ?fin7)
    case test7 =>
      clear F9 N9
      refine TestOk.one ?_
      intro s' v q oC rest mC hps hv F N sub nsC hm
      obtain ⟨t, rfl⟩ := hv
      have m2 := sub (L + 1, _) (by k_mem)
      refine held_post ?_
      k_steps
      exact ⟨⟨rfl, _, _, rfl, by k_asm, by k_asm⟩⟩
    case elt7 =>
      clear F9 N9
      intro s' v q oC rest mC hps hv _ F N sub nsC hm
      obtain ⟨t, rfl⟩ := hv
      have m2 := sub (L + 1, _) (by k_mem)
      k_steps
      rename _ ∧ AllLt _ _ => l1
      refine (lscan_spec (ps := [q])).use KX T (by k_asm) (by k_asm) ⟨⟨[.int q t], isList_LstS (by is_list), .cons _ _ .nil⟩, by simp⟩ fun r h' tk' tl' F' N' off hp => ?_
      obtain ⟨x, rfl, hx⟩ := hp
      k_unfold
      exact ⟨_, _, tl' ++ [(_, _)], rfl, F', by rw [List.append_assoc]; exact N', off_elt off l1, x, rfl, hx.mono fun _ _ h => List.mem_append_left _ h⟩
    obtain ⟨as7, rfl, hxs7⟩ := hB7.refs (P := fun S x p => LawS S x (mkScan [p] 1 (lastOf f) 1 0)) (fun k h => h.mono k)
    have hl7 : as7.length ≤ 6 := by
      rw [hxs7.length]
      exact Nat.le_trans (List.length_filter_le _ _) (laterD_len f hok)
    clear F9 N9
    k_steps
    rename Fr _ _ _ _ => F9
    rename News _ _ _ _ => N9
    refine hQ _ _ _ _ (stays_of F9 up') (led_of N9 up') ⟨_, rfl, as1 ++ as5 ++ as6 ++ as7, lstS_of (.head _) (by simp only [List.map_append]), ?_⟩
    unfold bandsD
    exact (((hxs1.imp fun _ _ h => h.mono fun a9 o9 h9 => by
      have h9 := m1 _ (.tail _ h9)
      repeat (first | exact h9 | exact List.mem_append_left _ h9 | refine List.mem_cons_of_mem _ ?_ | refine List.mem_append_right _ ?_)).mapR.append (hxs5.imp fun _ _ h => h.mono (by walk_at "MY_SUB2")).mapR).append (hxs6.imp fun _ _ h => h.mono (by walk_at "MY_SUB2")).mapR).append (hxs7.imp fun _ _ h => h.mono (by walk_at "MY_SUB2")).mapR
  · refine ⟨?_⟩
    rename Fr _ _ _ _ => F9
    rename News _ _ _ _ => N9
    k_dflt (refine' comp_eval F9 rfl ?clo ?cell ?kind ?nm ?x ?_)
    walk_at "MY_COMP"
    k_steps
    refine CompAt.on0 (RefR fun S x p => IntsS S x [p, 1, cutOf f, 0, 2]) ⟨_, c, by k_mem, rfl, rfl⟩ (intV_of hus) F9 N9 (by rw [hus2, sizeLine_eq]; omega) (fun C => ?elt2) (fun D2 h' tk xs2 made2 n2 F' N' oD2 mN2 hB2 => ?fin2)
    case elt2 =>
      clear F9 N9
      intro s' v p oC rest mC hps hv _ F N sub nsC hm
      obtain ⟨t, rfl⟩ := hv
      have m1 := sub (L + 1, _) (by k_mem)
      refine held_post ?_
      k_steps
      rename _ ∧ AllLt _ _ => l9
      exact ⟨⟨_, _, [_], rfl, by k_asm, by k_asm, fun q hq r hr => by rw [List.mem_singleton.mp hq]; exact allLt_off (l := (_, oC) :: rest) l9 r hr, _, rfl, _, ⟨_, _, .head _, rfl, rfl⟩, ints5⟩⟩
    obtain ⟨as2, rfl, hxs2⟩ := hB2.refs (P := fun S x p => IntsS S x [p, 1, cutOf f, 0, 2]) (fun k h => h.mono k)
    have hl2 : as2.length ≤ 6 := Nat.le_trans (Nat.le_of_eq (hxs2.length.trans (rangeKs_length _ _))) hok2
    clear F9 N9
    k_steps
    refine ⟨?_⟩
    rename Fr _ _ _ _ => F9
    rename News _ _ _ _ => N9
    k_dflt (refine' comp_eval F9 rfl ?clo ?cell ?kind ?nm ?x ?_)
    walk_at "MY_COMP"
    k_steps
    refine CompAt.on0 (RefR fun S x p => IntsS S x [p, 6, lastOf f, 0, 2]) ⟨_, c, by k_mem, rfl, rfl⟩ (intV_of hus) F9 N9 (by rw [hus2, sizeLine_eq]; omega) (fun C => ?elt3) (fun D3 h' tk xs3 made3 n3 F' N' oD3 mN3 hB3 => ?fin3)
    case elt3 =>
      clear F9 N9
      intro s' v p oC rest mC hps hv _ F N sub nsC hm
      obtain ⟨t, rfl⟩ := hv
      have m1 := sub (L + 1, _) (by k_mem)
      refine held_post ?_
      k_steps
      rename _ ∧ AllLt _ _ => l9
      exact ⟨⟨_, _, [_], rfl, by k_asm, by k_asm, fun q hq r hr => by rw [List.mem_singleton.mp hq]; exact allLt_off (l := (_, oC) :: rest) l9 r hr, _, rfl, _, ⟨_, _, .head _, rfl, rfl⟩, ints5⟩⟩
    obtain ⟨as3, rfl, hxs3⟩ := hB3.refs (P := fun S x p => IntsS S x [p, 6, lastOf f, 0, 2]) (fun k h => h.mono k)
    have hl3 : as3.length ≤ 6 := Nat.le_trans (Nat.le_of_eq (hxs3.length.trans (rangeKs_length _ _))) hok2
    clear F9 N9
    k_steps
    refine ⟨?_⟩
    rename Fr _ _ _ _ => F9
    rename News _ _ _ _ => N9
    k_dflt (refine' comp_eval F9 rfl ?clo ?cell ?kind ?nm ?x ?_)
    walk_at "MY_COMP"
    k_steps
    refine CompAt.on0 (RefR fun S x p => IntsS S x [p, 1, lastOf f, 2, 1]) ⟨_, c, by k_mem, rfl, rfl⟩ (intV_of hus) F9 N9 (by rw [hus2, sizeLine_eq]; omega) (fun C => ?elt4) (fun D4 h' tk xs4 made4 n4 F' N' oD4 mN4 hB4 => ?fin4)
    case elt4 =>
      clear F9 N9
      intro s' v p oC rest mC hps hv _ F N sub nsC hm
      obtain ⟨t, rfl⟩ := hv
      have m1 := sub (L + 1, _) (by k_mem)
      refine held_post ?_
      k_steps
      rename _ ∧ AllLt _ _ => l9
      exact ⟨⟨_, _, [_], rfl, by k_asm, by k_asm, fun q hq r hr => by rw [List.mem_singleton.mp hq]; exact allLt_off (l := (_, oC) :: rest) l9 r hr, _, rfl, _, ⟨_, _, .head _, rfl, rfl⟩, ints5⟩⟩
    obtain ⟨as4, rfl, hxs4⟩ := hB4.refs (P := fun S x p => IntsS S x [p, 1, lastOf f, 2, 1]) (fun k h => h.mono k)
    have hl4 : as4.length ≤ 6 := Nat.le_trans (Nat.le_of_eq (hxs4.length.trans (rangeKs_length _ _))) hok2
    clear F9 N9
    k_steps
    rename Fr _ _ _ _ => F9
    rename News _ _ _ _ => N9
    obtain ⟨nws, N9, hst, hsas, hsl, md, mc, m1⟩ : ∃ nws, News g _ _ nws ∧ LstS (On nws) _ (refs (as2 ++ as3 ++ as4)) ∧ All2 (IntsS (On nws)) (as2 ++ as3 ++ as4) (stepsD f) ∧ (stepsD f).length ≤ 18 ∧ (D, W.listOf us.toArray c) ∈ nws ∧ (L + 1, _) ∈ nws ∧ (∀ p ∈ (D1, W.listOf (refs as1).toArray n1) :: made1, p ∈ nws) :=
      ⟨_, N9, lstS_of (.head _) (by simp only [List.map_append]), by
        rw [stepsD_other f (by omega)]
        exact ((hxs2.imp fun _ _ h => h.mono (by walk_at "MY_SUB2")).mapR.append (hxs3.imp fun _ _ h => h.mono (by walk_at "MY_SUB2")).mapR).append (hxs4.imp fun _ _ h => h.mono (by walk_at "MY_SUB2")).mapR, stepsD_len f hok, by k_mem, by k_mem, by walk_at "MY_SUB"⟩
    refine ⟨?_⟩
    have hsal := hsas.length
    k_dflt (refine' comp_eval F9 rfl ?clo ?cell ?kind ?nm ?x ?_)
    walk_at "MY_COMP"
    k_steps
    refine CompAt.on (RefR fun S x st => LawS S x (stepScan st)) (p := fun st => decide (st.getD 1 0 ≤ st.getD 2 0)) hst (refV_of hsas) F9 N9 (by rw [List.length_map, sizeLine_eq]; omega) (fun C => ?test5b) (fun C => ?elt5b) (fun D5 h' tk xs5 made5 n5 F' N' oD5 mN5 hB5 => ?fin5b)
    case test5b =>
      clear F9 N9
      refine TestOk.one ?_
      intro s' v stp oC rest mC hps hv F N sub nsC hm
      obtain ⟨a, rfl, vs, hl5, hvs⟩ := hv
      have h5 := stepsD_each f stp hps
      have hv5 : vs.length = 5 := hvs.length.trans h5
      have hsz : s'.heap.IsList a vs.toArray := isList_on (tl := nws) N hl5 fun p hp => .tail _ (sub p hp)
      refine held_post ?_
      k_steps
      exact ⟨⟨rfl, _, _, rfl, by k_asm, by k_asm⟩⟩
    case elt5b =>
      clear F9 N9
      intro s' v stp oC rest mC hps hv _ F N sub nsC hm
      obtain ⟨a, rfl, vs, hl5, hvs⟩ := hv
      have h5 := stepsD_each f stp hps
      have hv5 : vs.length = 5 := hvs.length.trans h5
      have hl5 := hl5.mono (S' := On rest) fun _ _ h => sub _ h
      k_steps
      rename _ ∧ AllLt _ _ => l1
      refine (lscan_spec (ps := [stp.getD 0 0])).use KX T (by k_asm) (by k_asm) ⟨⟨[.int (stp.getD 0 0) _], isList_LstS (by is_list), .cons _ _ .nil⟩, by simp⟩ fun r h' tk' tl' F' N' off hp => ?_
      obtain ⟨x, rfl, hx⟩ := hp
      k_unfold
      exact ⟨_, _, tl' ++ [(_, _)], rfl, F', by rw [List.append_assoc]; exact N', off_elt off l1, x, rfl, hx.mono fun _ _ h => List.mem_append_left _ h⟩
    obtain ⟨as5, rfl, hxs5⟩ := hB5.refs (P := fun S x st => LawS S x (stepScan st)) (fun k h => h.mono k)
    have hl5 : as5.length ≤ 18 := by rw [hxs5.length]; exact Nat.le_trans (List.length_filter_le _ _) hsl
    have md1 := m1 _ (.head _)
    clear F9 N9
    k_steps
    refine ⟨?_⟩
    rename Fr _ _ _ _ => F9
    rename News _ _ _ _ => N9
    k_dflt (refine' comp_eval F9 rfl ?clo ?cell ?kind ?nm ?x ?_)
    walk_at "MY_COMP"
    k_steps
    refine CompAt.base (RefR fun S x ps => LawS S x (mkScan ps 0 0 1 0)) hll (refV_of hlots) F9 N9 (by rw [List.length_map, sizeLine_eq]; omega) (fun C => ?elt6b) (fun D6 h' tk xs6 made6 n6 F' N' oD6 mN6 hB6 => ?fin6b)
    case elt6b =>
      clear F9 N9
      intro s' v ps oC rest mC hps hv _ F N sub nsC hm
      obtain ⟨a, rfl, ha⟩ := hv
      have hpl := hlot ps hps
      k_steps
      refine (lscan_spec (ps := ps)).use KX T F N ⟨ha.mono F.keep, by omega⟩ fun r h' tk' tl' F' N' off hp => ?_
      obtain ⟨x, rfl, hx⟩ := hp
      k_unfold
      exact ⟨_, _, tl', rfl, F', N', off, x, rfl, hx⟩
    obtain ⟨as6, rfl, hxs6⟩ := hB6.refs (P := fun S x ps => LawS S x (mkScan ps 0 0 1 0)) (fun k h => h.mono k)
    have hl6 : as6.length ≤ 7 := by rw [hxs6.length]; exact hlen
    clear F9 N9
    k_steps
    all_goals try (exfalso; omega)
    refine ⟨?_⟩
    rename Fr _ _ _ _ => F9
    rename News _ _ _ _ => N9
    k_dflt (refine' comp_eval F9 rfl ?clo ?cell ?kind ?nm ?x ?_)
    walk_at "MY_COMP"
    k_steps
    refine CompAt.on (RefR fun S x p => LawS S x (mkScan [p] 1 (lastOf f) 1 0)) (p := fun _ => decide (lastOf f > 0)) (ks := laterD f) (vs := us) ⟨_, c, by k_mem, rfl, rfl⟩ (by rw [laterD_other f (by omega)]; exact intV_of hus) F9 N9 (by first | (rw [hus2, sizeLine_eq]; omega) | (simp [sizeLine_eq])) (fun C => ?test7b) (fun C => ?elt7b) (fun D7 h' tk xs7 made7 n7 F' N' oD7 mN7 hB7 => ?fin7b)
    case test7b =>
      clear F9 N9
      refine TestOk.one ?_
      intro s' v q oC rest mC hps hv F N sub nsC hm
      obtain ⟨t, rfl⟩ := hv
      have m2 := sub (L + 1, _) (by k_mem)
      refine held_post ?_
      k_steps
      exact ⟨⟨rfl, _, _, rfl, by k_asm, by k_asm⟩⟩
    case elt7b =>
      clear F9 N9
      intro s' v q oC rest mC hps hv _ F N sub nsC hm
      obtain ⟨t, rfl⟩ := hv
      have m2 := sub (L + 1, _) (by k_mem)
      k_steps
      rename _ ∧ AllLt _ _ => l1
      refine (lscan_spec (ps := [q])).use KX T (by k_asm) (by k_asm) ⟨⟨[.int q t], isList_LstS (by is_list), .cons _ _ .nil⟩, by simp⟩ fun r h' tk' tl' F' N' off hp => ?_
      obtain ⟨x, rfl, hx⟩ := hp
      k_unfold
      exact ⟨_, _, tl' ++ [(_, _)], rfl, F', by rw [List.append_assoc]; exact N', off_elt off l1, x, rfl, hx.mono fun _ _ h => List.mem_append_left _ h⟩
    obtain ⟨as7, rfl, hxs7⟩ := hB7.refs (P := fun S x p => LawS S x (mkScan [p] 1 (lastOf f) 1 0)) (fun k h => h.mono k)
    have hl7 : as7.length ≤ 6 := by
      rw [hxs7.length]
      exact Nat.le_trans (List.length_filter_le _ _) (laterD_len f hok)
    clear F9 N9
    k_steps
    rename Fr _ _ _ _ => F9
    rename News _ _ _ _ => N9
    refine hQ _ _ _ _ (stays_of F9 up') (led_of N9 up') ⟨_, rfl, as1 ++ as5 ++ as6 ++ as7, lstS_of (.head _) (by simp only [List.map_append]), ?_⟩
    unfold bandsD
    exact (((hxs1.imp fun _ _ h => h.mono fun a9 o9 h9 => by
      have h9 := m1 _ (.tail _ h9)
      repeat (first | exact h9 | exact List.mem_append_left _ h9 | refine List.mem_cons_of_mem _ ?_ | refine List.mem_append_right _ ?_)).mapR.append (hxs5.imp fun _ _ h => h.mono (by walk_at "MY_SUB2")).mapR).append (hxs6.imp fun _ _ h => h.mono (by walk_at "MY_SUB2")).mapR).append (hxs7.imp fun _ _ h => h.mono (by walk_at "MY_SUB2")).mapR
end

section
/-- what the fold holds after i components -/
structure GInv (f : FrameD) (i : Nat) (st : GSt) : Prop where
  flat : st.1.flatten ++ st.2.1 = rangeKs 0 i
  lots : ∀ lot ∈ st.1, lot ≠ [] ∧ lot.length ≤ 4 ∧ (1 < lot.length → sumMs f lot ≤ 10)
  here : (0 < i → st.2.1 ≠ []) ∧ st.2.1.length ≤ 4 ∧ (1 < st.2.1.length → sumMs f st.2.1 ≤ 10)
  many : st.2.2 = sumMs f st.2.1
  next : ∀ (j : Nat) (lot : List Int) (p : Int) (nxt : List Int), (st.1 ++ [st.2.1])[j]? = some lot → (st.1 ++ [st.2.1])[j + 1]? = some (p :: nxt) → lot.length < 4 → 10 < sumMs f (lot ++ [p])

theorem sumMs_snoc (f : FrameD) (ps : List Int) (p : Int) : sumMs f (ps ++ [p]) = sumMs f ps + msAt f p := by
  simp [sumMs, List.sum_append]
theorem rangeKs_snoc (i : Nat) : rangeKs 0 (i + 1) = rangeKs 0 i ++ [(i : Int)] := by
  simp [rangeKs, List.range_succ]
theorem msAt_nat (f : FrameD) (i : Nat) : msAt f (i : Int) = f.ms.getD i 0 := rfl

theorem ginv (f : FrameD) : ∀ i, GInv f i (gfold f.ms i)
  | 0 => by
    refine ⟨rfl, (fun _ h => nomatch h), ⟨fun h => absurd h (by decide), by simp [gfold], by simp [gfold]⟩, rfl, ?_⟩
    intro j lot p nxt h1 h2
    simp [gfold] at h2
  | i + 1 => by
    obtain ⟨hf, hl, ⟨hh, h4, h10⟩, hm, hn⟩ := ginv f i
    simp only [gfold, gstep]
    generalize gfold f.ms i = st at *
    obtain ⟨fd, hr, mn⟩ := st
    simp only at *
    split
    · rename_i hc
      refine ⟨?_, ?_, ⟨?_, ?_, ?_⟩, ?_, ?_⟩
      · simp only [List.flatten_append, List.flatten_cons, List.flatten_nil, List.append_nil]
        rw [hf, rangeKs_snoc]
      · intro lot hm'
        rcases List.mem_append.mp hm' with h | h
        · exact hl lot h
        · rw [List.mem_singleton.mp h]; exact ⟨hc.1, h4, h10⟩
      · simp
      · simp
      · simp
      · simp [sumMs, msAt_nat]
      · intro j lot p nxt e1 e2 hlt
        dsimp only at e1 e2
        by_cases hj : j + 1 < (fd ++ [hr]).length
        · rw [List.getElem?_append_left (by omega)] at e1
          rw [List.getElem?_append_left hj] at e2
          exact hn j lot p nxt e1 e2 hlt
        · have hj2 : j + 1 = (fd ++ [hr]).length := by
            have := (List.getElem?_eq_some_iff.mp e2).1
            simp only [List.length_append, List.length_singleton] at this hj ⊢
            omega
          rw [hj2, List.getElem?_concat_length] at e2
          rw [List.getElem?_append_left (by omega)] at e1
          have hj3 : j = fd.length := by simpa using hj2
          rw [hj3, List.getElem?_concat_length] at e1
          simp only [Option.some.injEq, List.cons.injEq] at e1 e2
          subst e1
          rw [← e2.1, sumMs_snoc, msAt_nat, ← hm]
          rcases hc.2 with h | h
          · omega
          · exact h
    · rename_i hc
      refine ⟨?_, hl, ⟨?_, ?_, ?_⟩, ?_, ?_⟩
      · rw [rangeKs_snoc, ← hf, List.append_assoc]
      · simp
      · by_cases e : hr = []
        · simp [e]
        · have : ¬ hr.length = 4 := fun q => hc ⟨e, .inl q⟩
          simp only [List.length_append, List.length_singleton]; omega
      · intro h1
        have e : hr ≠ [] := by
          intro q; subst q; simp at h1
        have : ¬ 10 < mn + f.ms.getD i 0 := fun q => hc ⟨e, .inr q⟩
        rw [sumMs_snoc, msAt_nat, ← hm]; omega
      · rw [sumMs_snoc, msAt_nat, ← hm]
      · intro j lot p nxt e1 e2 hlt
        dsimp only at e1 e2
        have hj : j + 1 < (fd ++ [hr ++ [(i : Int)]]).length := (List.getElem?_eq_some_iff.mp e2).1
        simp only [List.length_append, List.length_singleton] at hj
        have e1' : (fd ++ [hr])[j]? = some lot := by
          rw [List.getElem?_append_left (by omega)] at e1 ⊢; exact e1
        by_cases hj3 : j + 1 < fd.length
        · have e2' : (fd ++ [hr])[j + 1]? = some (p :: nxt) := by
            rw [List.getElem?_append_left (by omega)] at e2 ⊢; exact e2
          exact hn j lot p nxt e1' e2' hlt
        · have hj4 : j + 1 = fd.length := by omega
          rw [hj4, List.getElem?_concat_length] at e2
          cases hr with
          | nil =>
            exfalso
            have hi : i = 0 := Nat.eq_zero_of_not_pos fun q => hh q rfl
            subst hi
            have : fd.flatten = [] := by simpa [rangeKs] using hf
            rw [List.flatten_eq_nil_iff] at this
            have hm2 := List.getElem_mem (l := fd) (n := j) (by omega)
            exact (hl _ hm2).1 (this _ hm2)
          | cons q hr' =>
            simp only [List.cons_append, Option.some.injEq, List.cons.injEq] at e2
            have e2' : (fd ++ [q :: hr'])[j + 1]? = some (q :: hr') := by rw [hj4, List.getElem?_concat_length]
            rw [← e2.1]
            exact hn j lot q hr' e1' e2' hlt

theorem groups_right (f : FrameD) (hok : FrameOk f) : GrpOk f (groupsOf f.ms) := by
  have hl : f.ms.length = f.comps.length := by simp [FrameD.ms]
  obtain ⟨hf, hlt, ⟨hh, h4, h10⟩, hm, hn⟩ := ginv f f.ms.length
  refine ⟨?_, fun i lot e => ?_, hn⟩
  · rw [groupsOf, placesOf, ← hl, ← hf]
    simp
  · rcases List.mem_append.mp (List.mem_of_getElem? e) with h | h
    · exact hlt lot h
    · rw [List.mem_singleton.mp h]; exact ⟨hh (by have := hok.1; omega), h4, h10⟩

theorem range_pairwise (n : Nat) : (rangeKs 0 n).Pairwise (· < ·) := by
  rw [rangeKs, List.pairwise_map]
  exact List.pairwise_lt_range.imp fun h => by omega
theorem mem_places {f : FrameD} {p : Int} : p ∈ placesOf f ↔ 0 ≤ p ∧ p < f.comps.length := by
  refine ⟨fun h => by simpa [placesOf] using mem_rangeKs h, fun h => ?_⟩
  refine List.mem_map.mpr ⟨p.toNat, List.mem_range.mpr (by omega), by omega⟩
theorem places_nodup (f : FrameD) : (placesOf f).Nodup := (range_pairwise _).imp fun h => by omega
theorem filt_steps (ps : List Int) (a b hi lo : Int) : (((ps.map fun p => [p, a, b, hi, lo]).filter fun s => decide (s.getD 1 0 ≤ s.getD 2 0)).map stepScan) = acD ps a b hi lo := by
  unfold acD
  by_cases h : b < a
  · rw [if_pos h, List.filter_map, List.filter_eq_nil_iff.mpr (fun p _ => by simp [Int.not_le.mpr h])]; rfl
  · rw [if_neg h, List.filter_map, List.filter_eq_self.mpr (fun p _ => by simp [Int.not_lt.mp h]), List.map_map]; rfl
theorem filt_later (ps : List Int) (L : Int) : ((ps.filter fun _ => decide (L > 0)).map fun p => mkScan [p] 1 L 1 0) = acD ps 1 L 1 0 := by
  unfold acD
  by_cases h : L < 1
  · rw [if_pos h, List.filter_eq_nil_iff.mpr (fun p _ => by simp; omega)]; rfl
  · rw [if_neg h, List.filter_eq_self.mpr (fun p _ => by simp; omega)]
theorem acD_cut (ps : List Int) (f : FrameD) : acD ps (cutOf f + 1) (lastOf f) 0 2 = acD ps 6 (lastOf f) 0 2 := by
  unfold acD cutOf
  by_cases h : lastOf f < 5
  · rw [if_pos h, if_pos (by omega), if_pos (by omega)]
  · rw [if_neg h]; rfl

theorem bands_eq (f : FrameD) (_hok : FrameOk f) : bandsD f (groupsOf f.ms) = progD f := by
  unfold bandsD progD stepsD laterD
  by_cases h : f.comps.length = 3
  · simp only [if_pos h, filt_later]
    have e : [[0, 1, cutOf f, 0, 2], [2, 1, lastOf f, 0, 1], [1, 1, lastOf f, 0, 1], [0, 6, lastOf f, 0, 2], [0, 1, lastOf f, 2, 1]]
      = ([(0 : Int)].map fun p => [p, 1, cutOf f, 0, 2]) ++ ([(2 : Int), 1].map fun p => [p, 1, lastOf f, 0, 1]) ++ ([(0 : Int)].map fun p => [p, 6, lastOf f, 0, 2]) ++ ([(0 : Int)].map fun p => [p, 1, lastOf f, 2, 1]) := rfl
    rw [e]
    simp only [List.filter_append, List.map_append, filt_steps]
    unfold colourD dcD
    rw [acD_cut]
    simp only [List.append_assoc]
  · simp only [if_neg h, filt_later, List.filter_append, List.map_append, filt_steps]
    unfold plainD dcD
    rw [acD_cut]
    simp only [List.append_assoc]

/-! scans followed: a phase is as one scan -/
theorem runD_append (as bs : List ScanD) (st : St) : runD (as ++ bs) st = runD bs (runD as st) := List.foldl_append
theorem runOk_append {as bs : List ScanD} {st : St} (h : runOk as st) (h' : runOk bs (runD as st)) : runOk (as ++ bs) st := by
  induction as generalizing st with
  | nil => exact h'
  | cons c cs ih => exact ⟨h.1, ih h.2 h'⟩

theorem goD_mk (ps : List Int) (a b hi lo : Int) (st : St) (p i : Nat) : goD (mkScan ps a b hi lo) st p i = if (p : Int) ∈ ps ∧ a ≤ (i : Int) ∧ (i : Int) ≤ b then lo else st p i := rfl

theorem phase_run (gs : List (List Int)) (a b hi lo : Int) (st : St) : runD (gs.map fun g => mkScan g a b hi lo) st = goD (mkScan gs.flatten a b hi lo) st := by
  induction gs generalizing st with
  | nil =>
    funext p i
    rw [goD_mk]
    simp [runD]
  | cons g gs ih =>
    show runD (gs.map _) (goD (mkScan g a b hi lo) st) = _
    rw [ih]
    funext p i
    simp only [goD_mk, List.flatten_cons, List.mem_append]
    by_cases h1 : (p : Int) ∈ gs.flatten ∧ a ≤ (i : Int) ∧ (i : Int) ≤ b
    · rw [if_pos h1, if_pos ⟨.inr h1.1, h1.2⟩]
    · rw [if_neg h1]
      by_cases h2 : (p : Int) ∈ g ∧ a ≤ (i : Int) ∧ (i : Int) ≤ b
      · rw [if_pos h2, if_pos ⟨.inl h2.1, h2.2⟩]
      · rw [if_neg h2, if_neg]
        rintro ⟨h | h, h'⟩
        · exact h2 ⟨h, h'⟩
        · exact h1 ⟨h, h'⟩

theorem phase_ok (gs : List (List Int)) (a b hi lo : Int) (st : St) (hnd : gs.flatten.Nodup) (h : goOk (mkScan gs.flatten a b hi lo) st) : runOk (gs.map fun g => mkScan g a b hi lo) st := by
  induction gs generalizing st with
  | nil => trivial
  | cons g gs ih =>
    rw [List.flatten_cons, List.nodup_append] at hnd
    obtain ⟨n1, n2, n3⟩ := hnd
    have hdis : ∀ p : Nat, (p : Int) ∈ gs.flatten → ¬ (p : Int) ∈ g := fun p h1 h2 => n3 _ h2 _ h1 rfl
    refine ⟨fun p hp => h p (by rw [List.flatten_cons]; exact List.mem_append_left _ hp), ih _ n2 fun p hp => ?_⟩
    have := h p (by rw [List.flatten_cons]; exact List.mem_append_right _ hp)
    have hp' : (p : Int) ∈ gs.flatten := hp
    have e : ∀ i, goD (mkScan g a b hi lo) st p i = st p i := fun i => by
      rw [goD_mk, if_neg fun q => hdis p hp' q.1]
    simp only [e]
    exact this

theorem flatten_ones (ps : List Int) : (ps.map fun p => [p]).flatten = ps := by
  induction ps with
  | nil => rfl
  | cons p ps ih => simp [ih]
theorem acD_run (ps : List Int) (a b hi lo : Int) (st : St) : runD (acD ps a b hi lo) st = goD (mkScan ps a b hi lo) st := by
  unfold acD
  by_cases h : b < a
  · rw [if_pos h]
    funext p i
    rw [goD_mk, if_neg (by omega)]
    rfl
  · rw [if_neg h]
    have := phase_run (ps.map fun p => [p]) a b hi lo st
    rw [flatten_ones, List.map_map] at this
    exact this
theorem acD_ok (ps : List Int) (a b hi lo : Int) (st : St) (hnd : ps.Nodup) (h : goOk (mkScan ps a b hi lo) st) : runOk (acD ps a b hi lo) st := by
  unfold acD
  split
  · trivial
  · have := phase_ok (ps.map fun p => [p]) a b hi lo st
    rw [flatten_ones, List.map_map] at this
    exact this hnd h
theorem dcD_run (f : FrameD) (hok : FrameOk f) (hi lo : Int) (st : St) : runD (dcD f hi lo) st = goD (mkScan (placesOf f) 0 0 hi lo) st := by
  rw [dcD, phase_run, (groups_right f hok).1]
theorem dcD_ok (f : FrameD) (hok : FrameOk f) (hi lo : Int) (st : St) (h : goOk (mkScan (placesOf f) 0 0 hi lo) st) : runOk (dcD f hi lo) st := by
  rw [dcD]
  refine phase_ok _ _ _ _ _ _ ?_ ?_ <;> rw [(groups_right f hok).1]
  · exact places_nodup f
  · exact h
theorem seqD_run (f : FrameD) (hok : FrameOk f) (st : St) : runD (seqD f) st = goD (mkScan (placesOf f) 0 (lastOf f) 0 0) st := by
  rw [seqD, phase_run, (groups_right f hok).1]
theorem seqD_ok (f : FrameD) (hok : FrameOk f) (st : St) (h : goOk (mkScan (placesOf f) 0 (lastOf f) 0 0) st) : runOk (seqD f) st := by
  rw [seqD]
  refine phase_ok _ _ _ _ _ _ ?_ ?_ <;> rw [(groups_right f hok).1]
  · exact places_nodup f
  · exact h

/-! each scan is let -/
theorem slots_mk (ps : List Int) (a b hi lo : Int) (h : ps.length ≤ 4) : SlotsOk (mkScan ps a b hi lo) := by
  refine ⟨h, by simp [mkScan], by simp [mkScan], fun x hx => ?_⟩
  have : ∃ p, x = slotOf p := by
    simp only [mkScan, List.mem_append, List.mem_map] at hx
    rcases hx with ⟨p, _, rfl⟩ | ⟨p, _, rfl⟩ <;> exact ⟨p, rfl⟩
  obtain ⟨p, rfl⟩ := this
  unfold slotOf
  split <;> omega
theorem places_group (f : FrameD) (hok : FrameOk f) {g : List Int} (hg : g ∈ groupsOf f.ms) : PlacesOk f g ∧ g.Nodup := by
  obtain ⟨h1, h2, -⟩ := groups_right f hok
  obtain ⟨i, hi⟩ := List.getElem?_of_mem hg
  obtain ⟨a1, a2, a3⟩ := h2 i g hi
  have pw : (groupsOf f.ms).flatten.Pairwise (· < ·) := h1 ▸ range_pairwise _
  have pg := (List.pairwise_flatten.mp pw).1 g hg
  have hin : InF f g := fun p hp => mem_places.mp (h1 ▸ List.mem_flatten.mpr ⟨g, hg, hp⟩)
  refine ⟨⟨List.length_pos_iff.mpr a1, a2, hin, fun j p hp => ?_, ?_⟩, pg.imp fun h => by omega⟩
  · unfold aheadAt
    split
    · have := (hin p (List.mem_of_getElem? hp)).1; omega
    · obtain ⟨hj, e⟩ := List.getElem?_eq_some_iff.mp hp
      have := List.pairwise_iff_getElem.mp pg (j - 1) j (by omega) hj (by omega)
      rw [List.getD_eq_getElem?_getD, List.getElem?_eq_getElem (by omega)]
      rw [e] at this
      exact this
  · unfold blocksD
    split
    · decide
    · exact a3 (by have := List.length_pos_iff.mpr a1; omega)
theorem places_one (f : FrameD) {p : Int} (h : 0 ≤ p ∧ p < f.comps.length) : PlacesOk f [p] ∧ [p].Nodup := by
  refine ⟨⟨by simp, by simp, fun q hq => by rw [List.mem_singleton.mp hq]; exact h, fun j q hq => ?_, ?_⟩, by simp⟩
  · cases j with
    | zero => simp only [List.getElem?_cons_zero, Option.some.injEq] at hq; subst hq; show -1 < p; omega
    | succ j => simp at hq
  · unfold blocksD
    rw [if_pos (show ([p] : List Int).length = 1 from rfl)]; decide

theorem last_le (f : FrameD) (hok : FrameOk f) : 0 ≤ lastOf f := by
  have h := hok.2.2.2.1
  have : 1 * 1 ≤ f.n * f.n := Int.mul_le_mul h h (by decide) (by omega)
  unfold lastOf; omega

theorem dc_scan_ok (f : FrameD) (hok : FrameOk f) (hk : f.kind = "progressive") (hi lo : Int) (h1 : 0 ≤ lo ∧ lo ≤ 13) (h2 : hi = 0 ∨ hi = lo + 1) : ∀ c ∈ dcD f hi lo, ScanOk f c := by
  intro c hc
  obtain ⟨g, hg, rfl⟩ := List.mem_map.mp hc
  obtain ⟨hp, hn⟩ := places_group f hok hg
  have hl := last_le f hok
  unfold lastOf at hl
  refine ⟨hp, slots_mk _ _ _ _ _ hp.2.1, ?_, hn, Int.le_refl _, Int.le_refl _, hl⟩
  rw [BandOk, if_pos hk]
  exact ⟨hp.2.1, Int.le_refl _, Int.le_refl _, hl, fun _ => rfl, fun h => absurd rfl h, h1.1, h1.2, h2⟩
theorem ac_scan_ok (f : FrameD) (hk : f.kind = "progressive") (ps : List Int) (a b hi lo : Int) (hps : ∀ p ∈ ps, 0 ≤ p ∧ p < f.comps.length) (ha : 1 ≤ a) (hb : b ≤ lastOf f) (h1 : 0 ≤ lo ∧ lo ≤ 13) (h2 : hi = 0 ∨ hi = lo + 1) : ∀ c ∈ acD ps a b hi lo, ScanOk f c := by
  intro c hc
  unfold acD at hc
  split at hc
  · cases hc
  · rename_i hab
    obtain ⟨p, hp, rfl⟩ := List.mem_map.mp hc
    obtain ⟨hp, hn⟩ := places_one f (hps p hp)
    unfold lastOf at hb
    have ha0 : 0 ≤ a := by omega
    have hab' : a ≤ b := by omega
    refine ⟨hp, slots_mk _ _ _ _ _ (by simp), ?_, hn, ha0, hab', hb⟩
    rw [BandOk, if_pos hk]
    exact ⟨by simp [mkScan], ha0, hab', hb, fun h => by simp only [mkScan] at h; omega, fun _ => rfl, h1.1, h1.2, h2⟩
theorem seq_scan_ok (f : FrameD) (hok : FrameOk f) (hk : f.kind ≠ "progressive") : ∀ c ∈ seqD f, ScanOk f c := by
  intro c hc
  obtain ⟨g, hg, rfl⟩ := List.mem_map.mp hc
  obtain ⟨hp, hn⟩ := places_group f hok hg
  refine ⟨hp, slots_mk _ _ _ _ _ hp.2.1, ?_, hn, Int.le_refl _, last_le f hok, Int.le_refl _⟩
  rw [BandOk, if_neg hk]
  exact ⟨rfl, rfl, rfl, rfl⟩
def ScriptOk (f : FrameD) (cs : List ScanD) : Prop :=
  cs ≠ [] ∧ cs.length ≤ 100 ∧ (∀ c ∈ cs, ScanOk f c) ∧ runOk cs newSt ∧ allZero (rowsOf f.comps.length (f.n * f.n).toNat (runD cs newSt)) = true ∧
    allZero (rowsOf f.comps.length (f.n * f.n).toNat (runD cs.dropLast newSt)) = false

theorem allZero_of {N M : Nat} {st : St} (h : ∀ p i, p < N → i < M → st p i = 0) : allZero (rowsOf N M st) = true := by
  unfold allZero rowsOf rowOf
  rw [List.all_eq_true]
  intro r hr
  obtain ⟨p, hp, rfl⟩ := List.mem_map.mp hr
  rw [List.all_eq_true]
  intro k hk
  obtain ⟨i, hi, rfl⟩ := List.mem_map.mp hk
  rw [h p i (List.mem_range.mp hp) (List.mem_range.mp hi)]; rfl
theorem not_allZero {N M p i : Nat} {st : St} (hp : p < N) (hi : i < M) (h : st p i ≠ 0) : allZero (rowsOf N M st) = false := by
  rw [Bool.eq_false_iff]
  intro e
  unfold allZero rowsOf rowOf at e
  rw [List.all_eq_true] at e
  have := List.all_eq_true.mp (e _ (List.mem_map_of_mem (List.mem_range.mpr hp))) _ (List.mem_map_of_mem (List.mem_range.mpr hi))
  exact h (by simpa using this)

/-- without its last scan a script that is let is not complete -/
theorem short_of (f : FrameD) {cs : List ScanD} (hne : cs ≠ []) (hall : ∀ c ∈ cs, ScanOk f c) (hrun : runOk cs newSt) : allZero (rowsOf f.comps.length (f.n * f.n).toNat (runD cs.dropLast newSt)) = false := by
  have hpos := List.length_pos_iff.mpr hne
  have hi : cs[cs.length - 1]? = some (cs.getLast hne) := by rw [List.getLast_eq_getElem, List.getElem?_eq_getElem]
  generalize cs.getLast hne = c at hi
  have hgo := runOk_at hrun hi
  obtain ⟨hpl, -, -, -, h0, h1, h2⟩ := hall c (List.mem_of_getElem? hi)
  obtain ⟨hp1, -, hin, -⟩ := hpl
  obtain ⟨p, ps, hps⟩ : ∃ p ps, c.places = p :: ps := by
    cases h : c.places with
    | nil => rw [h] at hp1; simp at hp1
    | cons p ps => exact ⟨p, ps, rfl⟩
  have hmem : p ∈ c.places := hps ▸ .head _
  obtain ⟨hp, hpl⟩ := hin p hmem
  obtain ⟨-, hz⟩ := hgo p.toNat (by rw [Int.toNat_of_nonneg hp]; exact hmem)
  have hz := hz c.start.toNat (by omega) (by omega)
  rw [List.dropLast_eq_take]
  refine not_allZero (p := p.toNat) (i := c.start.toNat) (by omega) (by omega) ?_
  split at hz
  · rw [hz]; decide
  · rename_i hh; rw [hz]; exact hh

theorem script_ok (f : FrameD) {cs : List ScanD} (hne : cs ≠ []) (hlen : cs.length ≤ 100) (hall : ∀ c ∈ cs, ScanOk f c) (hrun : runOk cs newSt) (hz : ∀ p i : Nat, p < f.comps.length → (i : Int) ≤ lastOf f → runD cs newSt p i = 0) : ScriptOk f cs :=
  ⟨hne, hlen, hall, hrun, allZero_of fun p i hp hi => hz p i hp (by unfold lastOf; omega), short_of f hne hall hrun⟩

theorem groups_ne (ms : List Int) : groupsOf ms ≠ [] := by simp [groupsOf]
theorem groups_le (f : FrameD) (hok : FrameOk f) : (groupsOf f.ms).length ≤ 7 := by
  have h1 := groupsOf_len f.ms
  have h2 : f.ms.length ≤ 6 := by simpa [FrameD.ms] using hok.2.1
  omega
theorem nat_places {f : FrameD} {p : Nat} : (p : Int) ∈ placesOf f ↔ p < f.comps.length := by rw [mem_places]; omega

theorem seq_ok (f : FrameD) (hok : FrameOk f) (hk : f.kind ≠ "progressive") : ScriptOk f (seqD f) := by
  refine script_ok f (by simpa [seqD] using groups_ne f.ms) (by have := groups_le f hok; simp only [seqD, List.length_map]; omega) (seq_scan_ok f hok hk) (seqD_ok f hok _ ?_) fun p i hp hi => ?_
  · intro p hp
    refine ⟨fun h => absurd h (by simp [mkScan]), fun i h1 h2 => ?_⟩
    rfl
  · rw [seqD_run f hok, goD_mk, if_pos ⟨nat_places.mpr hp, by omega, hi⟩]

theorem acD_le (ps : List Int) (a b hi lo : Int) : (acD ps a b hi lo).length ≤ ps.length := by
  unfold acD
  split <;> simp
theorem dcD_le (f : FrameD) (hok : FrameOk f) (hi lo : Int) : (dcD f hi lo).length ≤ 7 := by
  have := groups_le f hok
  simpa [dcD] using this
theorem dcD_ne (f : FrameD) (hi lo : Int) : dcD f hi lo ≠ [] := by simpa [dcD] using groups_ne f.ms

theorem goOk_mk (ps : List Int) (a b hi lo : Int) (st : St) (h : ∀ p : Nat, (p : Int) ∈ ps → (0 < a → st p 0 ≠ -1) ∧ ∀ i : Nat, a ≤ (i : Int) → (i : Int) ≤ b → st p i = if hi = 0 then -1 else hi) : goOk (mkScan ps a b hi lo) st := by
  intro p hp
  refine ⟨(h p hp).1, fun i h1 h2 => ?_⟩
  have := (h p hp).2 i h1 h2
  show if hi = 0 then st p i = -1 else st p i = hi
  split <;> rename_i q
  · rw [this, if_pos q]
  · rw [this, if_neg q]

theorem plain_ok (f : FrameD) (hok : FrameOk f) (hk : f.kind = "progressive") : ScriptOk f (plainD f) := by
  have hl := last_le f hok
  have hpl : (placesOf f).length ≤ 6 := by rw [placesOf, rangeKs_length]; exact hok.2.1
  have hnd := places_nodup f
  have hin : ∀ p ∈ placesOf f, 0 ≤ p ∧ p < f.comps.length := fun p hp => mem_places.mp hp
  have hcut : cutOf f ≤ lastOf f ∧ 0 ≤ cutOf f := by unfold cutOf; split <;> omega
  unfold plainD
  generalize hP : placesOf f = P at *
  have memP : ∀ p : Nat, p < f.comps.length → (p : Int) ∈ P := fun p hp => hP ▸ nat_places.mpr hp
  refine script_ok f ?_ ?_ ?_ ?_ ?_
  · simp [dcD_ne]
  · simp only [List.length_append]
    have a1 := dcD_le f hok 0 1
    have a2 := dcD_le f hok 1 0
    have a3 := acD_le P 1 (cutOf f) 0 2
    have a4 := acD_le P (cutOf f + 1) (lastOf f) 0 2
    have a5 := acD_le P 1 (lastOf f) 2 1
    have a6 := acD_le P 1 (lastOf f) 1 0
    omega
  · intro c hc
    simp only [List.mem_append] at hc
    rcases hc with (((((hc | hc) | hc) | hc) | hc) | hc)
    · exact dc_scan_ok f hok hk 0 1 (by decide) (by decide) c hc
    · exact ac_scan_ok f hk P _ _ 0 2 hin (by omega) (by omega) (by decide) (by decide) c hc
    · exact ac_scan_ok f hk P _ _ 0 2 hin (by omega) (by omega) (by decide) (by decide) c hc
    · exact ac_scan_ok f hk P _ _ 2 1 hin (by omega) (by omega) (by decide) (by decide) c hc
    · exact dc_scan_ok f hok hk 1 0 (by decide) (by decide) c hc
    · exact ac_scan_ok f hk P _ _ 1 0 hin (by omega) (by omega) (by decide) (by decide) c hc
  · refine runOk_append (runOk_append (runOk_append (runOk_append (runOk_append ?_ ?_) ?_) ?_) ?_) ?_
    · exact dcD_ok f hok _ _ _ (goOk_mk _ _ _ _ _ _ fun p hp => ⟨fun h => absurd h (by decide), fun i h1 h2 => rfl⟩)
    all_goals simp only [runD_append, dcD_run f hok, acD_run, hP]
    · refine acD_ok _ _ _ _ _ _ hnd (goOk_mk _ _ _ _ _ _ fun p hp => ?_)
      simp only [goD_mk, newSt, hp, true_and]
      refine ⟨fun _ => by simp, fun i h1 h2 => ?_⟩
      rw [if_neg (by omega)]; rfl
    · refine acD_ok _ _ _ _ _ _ hnd (goOk_mk _ _ _ _ _ _ fun p hp => ?_)
      simp only [goD_mk, newSt, hp, true_and]
      refine ⟨fun _ => by simp, fun i h1 h2 => ?_⟩
      rw [if_neg (by omega), if_neg (by omega)]; rfl
    · refine acD_ok _ _ _ _ _ _ hnd (goOk_mk _ _ _ _ _ _ fun p hp => ?_)
      simp only [goD_mk, newSt, hp, true_and]
      refine ⟨fun _ => ?_, fun i h1 h2 => ?_⟩
      · rw [if_neg (by omega), if_neg (by omega), if_pos (by omega)]; decide
      · by_cases q : cutOf f + 1 ≤ (i : Int)
        · rw [if_pos ⟨q, h2⟩]; rfl
        · rw [if_neg (fun h => q h.1), if_pos (by omega)]; rfl
    · refine dcD_ok f hok _ _ _ (goOk_mk _ _ _ _ _ _ fun p hp => ?_)
      rw [hP] at hp
      simp only [goD_mk, newSt, hp, true_and]
      refine ⟨fun h => absurd h (by decide), fun i h1 h2 => ?_⟩
      rw [if_neg (by omega), if_neg (by omega), if_neg (by omega), if_pos (by omega)]; rfl
    · refine acD_ok _ _ _ _ _ _ hnd (goOk_mk _ _ _ _ _ _ fun p hp => ?_)
      simp only [goD_mk, newSt, hp, true_and]
      refine ⟨fun _ => ?_, fun i h1 h2 => ?_⟩
      · rw [if_pos (by omega)]; decide
      · rw [if_neg (by omega), if_pos (by omega)]; rfl
  · intro p i hp hi
    have hp := memP p hp
    simp only [runD_append, dcD_run f hok, acD_run, hP, goD_mk, hp, true_and]
    by_cases q : 1 ≤ (i : Int)
    · rw [if_pos ⟨q, hi⟩]
    · rw [if_neg (by omega), if_pos (by omega)]

theorem colour_ok (f : FrameD) (hok : FrameOk f) (hk : f.kind = "progressive") (h3 : f.comps.length = 3) : ScriptOk f (colourD f) := by
  have hl := last_le f hok
  have hcut : cutOf f ≤ lastOf f ∧ 0 ≤ cutOf f := by unfold cutOf; split <;> omega
  have in0 : ∀ p ∈ [(0 : Int)], 0 ≤ p ∧ p < f.comps.length := fun p hp => by rw [List.mem_singleton.mp hp, h3]; decide
  have in21 : ∀ p ∈ [(2 : Int), 1], 0 ≤ p ∧ p < f.comps.length := fun p hp => by
    simp only [List.mem_cons, List.not_mem_nil, or_false] at hp; omega
  have in210 : ∀ p ∈ [(2 : Int), 1, 0], 0 ≤ p ∧ p < f.comps.length := fun p hp => by
    simp only [List.mem_cons, List.not_mem_nil, or_false] at hp; omega
  have memP : ∀ p : Nat, (p : Int) ∈ placesOf f ↔ p < 3 := fun p => by rw [nat_places, h3]
  have m0 : ∀ p : Nat, (p : Int) ∈ [(0 : Int)] ↔ p = 0 := fun p => by simp only [List.mem_cons, List.not_mem_nil, or_false]; omega
  have m21 : ∀ p : Nat, (p : Int) ∈ [(2 : Int), 1] ↔ (p = 1 ∨ p = 2) := fun p => by simp only [List.mem_cons, List.not_mem_nil, or_false]; omega
  have m210 : ∀ p : Nat, (p : Int) ∈ [(2 : Int), 1, 0] ↔ p < 3 := fun p => by simp only [List.mem_cons, List.not_mem_nil, or_false]; omega
  unfold colourD
  refine script_ok f ?_ ?_ ?_ ?_ ?_
  · simp [dcD_ne]
  · simp only [List.length_append]
    have a1 := dcD_le f hok 0 1
    have a2 := dcD_le f hok 1 0
    have a3 := acD_le [0] 1 (cutOf f) 0 2
    have a4 := acD_le [2, 1] 1 (lastOf f) 0 1
    have a5 := acD_le [0] (cutOf f + 1) (lastOf f) 0 2
    have a6 := acD_le [0] 1 (lastOf f) 2 1
    have a7 := acD_le [2, 1, 0] 1 (lastOf f) 1 0
    simp only [List.length_cons, List.length_nil] at a3 a4 a5 a6 a7
    omega
  · intro c hc
    simp only [List.mem_append] at hc
    rcases hc with ((((((hc | hc) | hc) | hc) | hc) | hc) | hc)
    · exact dc_scan_ok f hok hk 0 1 (by decide) (by decide) c hc
    · exact ac_scan_ok f hk _ _ _ 0 2 in0 (by omega) (by omega) (by decide) (by decide) c hc
    · exact ac_scan_ok f hk _ _ _ 0 1 in21 (by omega) (by omega) (by decide) (by decide) c hc
    · exact ac_scan_ok f hk _ _ _ 0 2 in0 (by omega) (by omega) (by decide) (by decide) c hc
    · exact ac_scan_ok f hk _ _ _ 2 1 in0 (by omega) (by omega) (by decide) (by decide) c hc
    · exact dc_scan_ok f hok hk 1 0 (by decide) (by decide) c hc
    · exact ac_scan_ok f hk _ _ _ 1 0 in210 (by omega) (by omega) (by decide) (by decide) c hc
  · refine runOk_append (runOk_append (runOk_append (runOk_append (runOk_append (runOk_append ?_ ?_) ?_) ?_) ?_) ?_) ?_
    · exact dcD_ok f hok _ _ _ (goOk_mk _ _ _ _ _ _ fun p hp => ⟨fun h => absurd h (by decide), fun i h1 h2 => rfl⟩)
    all_goals simp only [runD_append, dcD_run f hok, acD_run]
    · refine acD_ok _ _ _ _ _ _ (by decide) (goOk_mk _ _ _ _ _ _ fun p hp => ?_)
      rw [m0] at hp
      simp only [goD_mk, newSt, memP, m0, m21, m210]
      refine ⟨fun _ => ?_, fun i h1 h2 => ?_⟩
      · rw [if_pos (by omega)]; decide
      · rw [if_neg (by omega)]; rfl
    · refine acD_ok _ _ _ _ _ _ (by decide) (goOk_mk _ _ _ _ _ _ fun p hp => ?_)
      rw [m21] at hp
      simp only [goD_mk, newSt, memP, m0, m21, m210]
      refine ⟨fun _ => ?_, fun i h1 h2 => ?_⟩
      · rw [if_neg (by omega), if_pos (by omega)]; decide
      · rw [if_neg (by omega), if_neg (by omega)]; rfl
    · refine acD_ok _ _ _ _ _ _ (by decide) (goOk_mk _ _ _ _ _ _ fun p hp => ?_)
      rw [m0] at hp
      simp only [goD_mk, newSt, memP, m0, m21, m210]
      refine ⟨fun _ => ?_, fun i h1 h2 => ?_⟩
      · rw [if_neg (by omega), if_neg (by omega), if_pos (by omega)]; decide
      · rw [if_neg (by omega), if_neg (by omega), if_neg (by omega)]; rfl
    · refine acD_ok _ _ _ _ _ _ (by decide) (goOk_mk _ _ _ _ _ _ fun p hp => ?_)
      rw [m0] at hp
      simp only [goD_mk, newSt, memP, m0, m21, m210]
      refine ⟨fun _ => ?_, fun i h1 h2 => ?_⟩
      · rw [if_neg (by omega), if_neg (by omega), if_neg (by omega), if_pos (by omega)]; decide
      · by_cases q : cutOf f + 1 ≤ (i : Int)
        · rw [if_pos ⟨hp, q, h2⟩]; rfl
        · rw [if_neg (fun h => q h.2.1), if_neg (by omega), if_pos (by omega)]; rfl
    · refine dcD_ok f hok _ _ _ (goOk_mk _ _ _ _ _ _ fun p hp => ?_)
      rw [memP] at hp
      simp only [goD_mk, newSt, memP, m0, m21, m210]
      refine ⟨fun h => absurd h (by decide), fun i h1 h2 => ?_⟩
      rw [if_neg (by omega), if_neg (by omega), if_neg (by omega), if_neg (by omega), if_pos (by omega)]; rfl
    · refine acD_ok _ _ _ _ _ _ (by decide) (goOk_mk _ _ _ _ _ _ fun p hp => ?_)
      rw [m210] at hp
      simp only [goD_mk, newSt, memP, m0, m21, m210]
      refine ⟨fun _ => ?_, fun i h1 h2 => ?_⟩
      · rw [if_pos (by omega)]; decide
      · rw [if_neg (by omega)]
        by_cases q : p = 0
        · rw [if_pos ⟨q, h1, h2⟩]; rfl
        · rw [if_neg (fun h => q h.1), if_neg (fun h => q h.1), if_pos ⟨by omega, h1, h2⟩]; rfl
  · intro p i hp hi
    rw [h3] at hp
    simp only [runD_append, dcD_run f hok, acD_run, goD_mk, memP, m210]
    by_cases q : 1 ≤ (i : Int)
    · rw [if_pos ⟨hp, q, hi⟩]
    · rw [if_neg (by omega), if_pos (by omega)]

theorem prog_ok (f : FrameD) (hok : FrameOk f) (hk : f.kind = "progressive") : ScriptOk f (progD f) := by
  unfold progD
  split
  · exact colour_ok f hok hk (by assumption)
  · exact plain_ok f hok hk
end

section
theorem pool_use {w : World} {A : Around} {E Q : Value → Shared → Prop} {s : Shared} {mg mb : Str → Option Value} {g : Heap} {L : Addr} {m : Str → Option Value} {news : List (Addr × Obj)} {sc : Addr} {vs : List Value} {ns : List Int} {k : Int} {t : Tok}
    (KX : (hd.heap_1 w.params).In g) (T : TR mg mb g) (F : Fr g L s.heap m) (N : News g L s.heap news) (hl : s.heap.IsList sc vs.toArray) (hi : IntsAre vs ns) (hk : 0 ≤ k) (hk2 : k ≤ 100) (hlen : ns.length ≤ 63)
    (k9 : ∀ a o h' tk', Fr g L h' m → News g L h' ((a, o) :: news) → (∀ q ∈ news, a ≠ q.1) → SrcO o → Q (.ref a) { s with heap := h', toks := tk' })
    (hA : A.handled = none := by rfl) (hd : A.depth ≤ 600 := by decide) (hu : A.units ≤ 600 := by decide) :
    wpAny (model PR w) A (call (.ref 332) [.ref sc, .int k t]) Q E s :=
  of_AA 600 600 (pool_spec ⟨KX, T⟩ F.keep hl hi hk hk2 hlen fun a o h' tk' hst hl ho =>
    let ⟨F', N', off⟩ := fr_led F N hst hl; k9 a o h' tk' F' N' (fun q hq => off (a, o) (.head _) q hq) ho) hA hd hu

theorem frame_use {w : World} {A : Around} {E Q : Value → Shared → Prop} {s : Shared} {mg mb : Str → Option Value} {g : Heap} {L : Addr} {m : Str → Option Value} {news rest : List (Addr × Obj)} {src : Addr} {o : Obj} {kind : String} {t : Tok}
    (KX : (hd.heap_1 w.params).In g) (T : TR mg mb g) (F : Fr g L s.heap m) (N : News g L s.heap news) (hm : (src, o) ∈ news) (ho : SrcO o) (hs : ∀ p ∈ rest, p ∈ news) (hr : ∀ p ∈ rest, p.1 ≠ src)
    (k9 : ∀ x f h' tk' tl, Fr g L h' m → News g L h' (tl ++ rest) → (∀ p ∈ tl, ∀ q ∈ rest, p.1 ≠ q.1) → FrameS (On tl) x f → f.kind = kind → FrameOk f → Q (.ref x) { s with heap := h', toks := tk' })
    (hA : A.handled = none := by rfl) (hd : A.depth ≤ 570 := by decide) (hu : A.units ≤ 570 := by decide) :
    wpAny (model PR w) A (call (.ref 353) [.ref src, .str (Str.ofString kind) t]) Q E s := by
  have z := N _ hm
  refine of_AA 570 570 (frame_spec ⟨KX, T⟩ F.keep z.1 z.2.2 ho fun x f h' tk' tl off hl hf hk hok => ?_) hA hd hu
  have F' : Fr g L h' m := ⟨F.ns.at' fun o e => off L o (fun q => z.2.1 q.symm) e, fun b o e => off b o (fun q => by rw [q, z.2.2] at e; cases e) (F.keep b o e), F.above⟩
  have hnone : ∀ p ∈ tl, p.1 ≠ L ∧ g.get? p.1 = none ∧ s.heap.get? p.1 = none := fun p hp => by
    have y := (hl p hp).2
    refine ⟨fun e => ?_, ?_, y⟩
    · obtain ⟨o', _, _, ho', _⟩ := F.ns
      rw [← e, y] at ho'; cases ho'
    · cases q : g.get? p.1 with
      | none => rfl
      | some o' => have := F.keep _ _ q; rw [y] at this; cases this
  refine k9 x f h' tk' tl F' (fun p hp => ?_) (fun p hp q hq e => ?_) hf hk hok
  · rcases List.mem_append.mp hp with hp | hp
    · exact ⟨(hl p hp).1, (hnone p hp).1, (hnone p hp).2.1⟩
    · have y := N p (hs p hp)
      exact ⟨off _ _ (hr p hp) y.1, y.2⟩
  · have y := (N q (hs q hq)).1
    rw [← e, (hnone p hp).2.2] at y; cases y

def intsDat (xs : List Int) : Dat := .list (xs.map .int)
def lawDat (c : ScanD) : Dat := .list [intsDat c.places, intsDat c.dc, intsDat c.ac, .int c.start, .int c.stop, .int c.high, .int c.low]
theorem intsDat_ok (n : Nat) (xs : List Int) : kqdOk (n + 1) (intsDat xs) = true := by
  simp only [intsDat, kqdOk, List.all_map]
  exact List.all_eq_true.mpr fun _ _ => by cases n <;> rfl
theorem lawDat_ok (c : ScanD) : kqdOk 7 (lawDat c) = true := by
  simp only [lawDat, kqdOk, List.all_cons, List.all_nil, intsDat_ok, Bool.and_true, Bool.and_self]
theorem reads_ints {h : Heap} {vs : List Value} {xs : List Int} (hi : IntsAre vs xs) : ReadsAll h vs (kqdPs (xs.map .int)) [] := by
  induction hi with
  | nil => exact .nil
  | cons k t _ ih => exact ReadsAll.cons (as := []) (bs := []) (Reads.int k t) ih
theorem reads_intsS {h : Heap} {a : Addr} {xs : List Int} (x : IntsS (At h) a xs) : ∃ as, Reads h (.ref a) (kqdP (intsDat xs)) as := by
  obtain ⟨vs, ⟨o, n, ho, hc, hd⟩, hi⟩ := x
  exact ⟨_, reads_list_at ho hc hd (by simpa using reads_ints hi)⟩
theorem reads_law {h : Heap} {a : Addr} {c : ScanD} (x : LawS (At h) a c) : ∃ as, Reads h (.ref a) (kqdP (lawDat c)) as := by
  obtain ⟨pl, dc, ac, t4, t5, t6, t7, ⟨o, n, ho, hcl, hd⟩, h1, h2, h3⟩ := x
  obtain ⟨a1, r1⟩ := reads_intsS h1
  obtain ⟨a2, r2⟩ := reads_intsS h2
  obtain ⟨a3, r3⟩ := reads_intsS h3
  have r := ReadsAll.cons r1 (ReadsAll.cons r2 (ReadsAll.cons r3 (ReadsAll.cons (Reads.int c.start t4) (ReadsAll.cons (Reads.int c.stop t5) (ReadsAll.cons (Reads.int c.high t6) (ReadsAll.cons (Reads.int c.low t7) ReadsAll.nil))))))
  exact ⟨_, reads_list_at ho hcl hd r⟩
theorem reads_laws {h : Heap} {as : List Addr} {cs : List ScanD} (x : All2 (LawS (At h)) as cs) : ∃ bs, ReadsAll h (refs as) (kqdPs (cs.map lawDat)) bs := by
  induction x with
  | nil => exact ⟨_, .nil⟩
  | cons y _ ih =>
    obtain ⟨b1, r1⟩ := reads_law y
    obtain ⟨b2, r2⟩ := ih
    exact ⟨_, ReadsAll.cons r1 r2⟩
theorem laws_ne {prog : Program} {w : World} {A : Around} {E Q : Value → Shared → Prop} {s : Shared} {a b : Addr} {cs : List ScanD}
    (ha : LawsS (At s.heap) a cs) (hb : LawsS (At s.heap) b cs) (hu : A.units + 64 < cLine) (h : Q (.bool false) s) : wpAny (model prog w) A (compareOp .NotEq (.ref a) (.ref b)) Q E s := by
  obtain ⟨as, ⟨oa, na, hoa, hca, hda⟩, has⟩ := ha
  obtain ⟨bs, ⟨ob, nb, hob, hcb, hdb⟩, hbs⟩ := hb
  obtain ⟨as', ra⟩ := reads_laws has
  obtain ⟨bs', rb⟩ := reads_laws hbs
  have hall : ∀ d ∈ cs.map lawDat, kqdOk 7 d = true := fun d hd => by
    obtain ⟨c, _, rfl⟩ := List.mem_map.mp hd
    exact lawDat_ok c
  have hk : kqdOk 8 (.list (cs.map lawDat)) = true := by simpa [kqdOk] using hall
  have la := kqd_lay 8 _ hk
  rw [kqdP] at la
  have e : PyData.eqv (.list (kqdPs (cs.map lawDat))) (.list (kqdPs (cs.map lawDat))) = true := by
    have q := (kqd_eqv 8 (.list (cs.map lawDat)) (.list (cs.map lawDat)) 8 hk hk).mpr rfl
    rwa [kqdP] at q
  have hsh : SeqAt.shaped (.list (kqdPs (cs.map lawDat))) = true := by
    unfold SeqAt.shaped; rw [la.1, Bool.true_and]; exact decide_eq_true (Nat.le_trans la.2 (by decide))
  exact ne_dataH (reads_list_at hoa hca hda (by simpa using ra)) (reads_list_at hob hcb hdb (by simpa using rb)) hsh hsh hu (by rw [e]; exact h)
end

section
local macro_rules | `(tactic| walk_at "MY_AT") => `(tactic| (intro a9 o9 h9; rename News _ _ _ _ => N9; refine (N9 (a9, o9) ?_).1; (repeat (first | exact h9 | exact List.mem_append_left _ h9 | refine List.mem_cons_of_mem _ ?_ | refine List.mem_append_right _ ?_))))

local macro_rules | `(tactic| walk_at "MY_SUB2") => `(tactic| (intro a9 o9 h9; (repeat (first | exact h9 | exact List.mem_append_left _ h9 | refine List.mem_cons_of_mem _ ?_ | refine List.mem_append_right _ ?_))))
local macro_rules | `(tactic| walk_at "compareOp NotEq ref ref") => `(tactic| refine unhold ?_)
local macro_rules | `(tactic| walk_at "subscriptTail Name Slice ref ref") => `(tactic| refine unhold ?_)
/-- a turn that ends as turns do: what stands behind the loop is out of sight -/
structure TurnEnd (h₀ : Heap) (L I : Addr) (oI : Obj) (J : (Str → Option Value) → List (Addr × Obj) → Prop) (s₁ : Shared) (f : Flow) (s₂ : Shared) : Prop where
  out : f = Flow.next ∧ ∃ h' tk m' nx, s₂ = { s₁ with heap := h', toks := tk } ∧ Fr h₀ L h' m' ∧ News h₀ L h' ((I, oI) :: nx) ∧ (∀ p ∈ nx, p.1 ≠ I) ∧ J m' nx
theorem turn_next {M : Model} {A : Around} {E : Value → Shared → Prop} {t : Sem Flow} {s s₁ : Shared} {h₀ : Heap} {L I : Addr} {oI : Obj} {J : (Str → Option Value) → List (Addr × Obj) → Prop} {Q : Flow → Shared → Prop}
    (h : wpAny M A t (TurnEnd h₀ L I oI J s₁) E s) : wpAny M A t (TurnPost h₀ L I oI J s₁ Q) E s :=
  wpAny_mono h (fun f s₂ h => by obtain ⟨rfl, x⟩ := h.out; exact x) fun _ _ h => h
theorem pick_last (vs : List Value) : slicePick vs.toArray none (some (-1)) none = vs.dropLast.toArray := by
  rw [kmk_pick_nat _ (kms_bounds none (some (-1)) vs.toArray.size)]
  show ((vs.drop 0).take (vs.toArray.size - 1 - 0)).toArray = _
  rw [List.drop_zero, Nat.sub_zero, List.size_toArray, List.dropLast_eq_take]
theorem All2.dropLast {α β : Type} {R : α → β → Prop} {as : List α} {bs : List β} (h : All2 R as bs) : All2 R as.dropLast bs.dropLast := by
  rw [List.dropLast_eq_take, List.dropLast_eq_take, h.length]
  exact h.take _
theorem runOk_take : ∀ {cs : List ScanD} {st : St} (n : Nat), runOk cs st → runOk (cs.take n) st
  | [], _, _, _ => by simp [runOk]
  | _ :: _, _, 0, _ => trivial
  | _ :: _, _, n + 1, h => ⟨h.1, runOk_take n h.2⟩
theorem runOk_dropLast {cs : List ScanD} {st : St} (h : runOk cs st) : runOk cs.dropLast st := by
  rw [List.dropLast_eq_take]; exact runOk_take _ h
local macro_rules | `(tactic| k_qdec) => `(tactic| ((first | rw [PySem.W.Fast.te17448422675489707002] | rw [PySem.W.Fast.te2458874890965802552]); kernel_rfl))
theorem lawP : PySem.Challenge.rw_nz0253_01.Holds := hd (by
  k_go0
  (all_goals try k_fold)
  rename World => w
  rename Shared => s1
  rename Top _ _ _ _ _ _ => T0
  have T := topRead_of T0
  rename (hd.heap_1 _).In _ => KX
  rename IntsAre _ _ => hInts
  rename s1.heap.IsList _ _ => hL
  rename List Int => ns
  rename News _ _ _ _ => N0
  rename Fr _ _ _ _ => F0
  rename _ = Data.cell _ => dc
  rename ¬(63 : Int) < _ => hns
  have hns : ns.length ≤ 63 := by omega
  refine of_AA 390 390 (wpAny_mono (E := fun _ _ => False) ?_ (fun _ _ h => h) (fun _ _ h => h.elim)) rfl ?_ ?_
  rotate_left
  · exact Nat.le_of_ble_eq_true rfl
  · exact Nat.le_of_ble_eq_true rfl
  k_steps
  refine ⟨?_⟩
  refine For_invV s1.heap rfl rfl ?_ (hE := PassesOwn.never)
  k_steps
  refine ⟨?_⟩
  rename Fr _ _ _ _ => F9
  rename News _ _ _ _ => N9
  refine loop_range1 (n := if 2 ≤ ns.length then 2 else 1) (fun m₀ i m nx => ∃ o cv, nx = [(s1.heap.objs.size + 1, o)] ∧ o.data = .cell cv ∧ Keep ["k", "source", "lots", "usual", "due"] m₀ m) rfl (by split <;> split <;> (try split) <;> omega) (by split <;> omega) F9 N9 ?start ?turn ?done
  case start => exact ⟨_, _, rfl, dc, Keep.refl _ _⟩
  case done =>
    clear F9 N9
    rintro m₁ nx h tk ⟨o, cv, rfl, ho, u, rfl⟩ F N
    k_steps
  case turn =>
    clear F9 N9
    rintro i ti m₁ nx h tk I oI hi hI ⟨oc, cv, rfl, hoc, u, rfl⟩ F N
    have hi2 : i < 2 := Nat.lt_of_lt_of_le hi (by split <;> omega)
    refine turn_next ?_
    k_steps
    refine pool_use KX T (by k_asm) (by k_asm) (stays_list (Fr.keep (by k_asm)) hL) hInts (by omega) (by omega) hns fun a o h' tk' F' N' off ho => ?_
    have na1 : a ≠ I := off _ (.head _)
    have na2 : a ≠ s1.heap.objs.size + 1 := off _ (.tail _ (.head _))
    have nc : s1.heap.objs.size + 1 ≠ I := hI _ (.head _)
    clear off
    have nall : ∀ p ∈ [(I, oI), (s1.heap.objs.size + 1, oc)], p.1 ≠ a := List.forall_mem_cons.mpr ⟨Ne.symm na1, List.forall_mem_cons.mpr ⟨Ne.symm na2, List.forall_mem_nil _⟩⟩
    k_steps
    refine one_use KX T (by k_asm) (by k_asm) (by k_updF) ho (by k_ne) (by is_list) (by simp) (by simp) fun v o' h' tk' hr F' N' ho' => ?_
    obtain ⟨kd, tk9, rfl, hkd⟩ : ∃ kd tk9, v = .str (Str.ofString kd) tk9 ∧ KindOk kd := by
      simp only [List.mem_cons, List.not_mem_nil, or_false] at hr
      rcases hr with rfl | rfl | rfl | rfl
      · exact ⟨_, _, rfl, .inl rfl⟩
      · exact ⟨_, _, rfl, .inr (.inl rfl)⟩
      · exact ⟨_, _, rfl, .inr (.inl rfl)⟩
      · exact ⟨_, _, rfl, .inr (.inr rfl)⟩
    clear hr ho
    k_steps
    refine frame_use (rest := [(I, oI), (s1.heap.objs.size + 1, oc)]) KX T (by k_asm) (by k_asm) (by k_mem) ho' (List.forall_mem_cons.mpr ⟨by k_mem, List.forall_mem_cons.mpr ⟨by k_mem, List.forall_mem_nil _⟩⟩) nall fun x f h' tk' tl F' N' off hf hk hok => ?_
    clear nall
    k_steps
    rename News _ _ _ _ => N9
    rename Fr _ _ _ _ => F9
    have hkf : KindOk f.kind := hk ▸ hkd
    obtain ⟨c9, mc⟩ : ∃ c9, (s1.heap.objs.size + 1, c9) ∈ tl ++ [(I, oI), (s1.heap.objs.size + 1, _)] ∧ c9.data = .cell (some (.ref x)) := ⟨_, List.mem_append_right _ (.tail _ (.head _)), by assumption⟩
    refine groups_spec.use KX T F9 N9 ⟨hf.mono (by walk_at "MY_AT"), hok⟩ fun r h' tk' tl2 F' N' off2 hp => ?_
    obtain ⟨la, rfl, hla⟩ := hp
    k_steps
    rename News _ _ _ _ => N9
    rename Fr _ _ _ _ => F9
    obtain ⟨mc, dc9⟩ := mc
    obtain ⟨nws, N9, hf, hl, mI, mc⟩ : ∃ nws, News s1.heap _ _ nws ∧ FrameS (On nws) x f ∧ ListsS (On nws) la (groupsOf f.ms) ∧ (I, oI) ∈ nws ∧ (s1.heap.objs.size + 1, c9) ∈ nws :=
      ⟨_, N9, hf.mono (by walk_at "MY_SUB2"), hla.mono (by walk_at "MY_SUB2"), List.mem_append_right _ (List.mem_append_right _ (.head _)), List.mem_append_right _ mc⟩
    have hgl : (groupsOf f.ms).length ≤ 7 := by
      have h1 := groupsOf_len f.ms
      have h2 : f.ms.length ≤ 6 := by simpa [FrameD.ms] using hok.2.1
      omega
    refine gright_spec.use KX T F9 N9 ⟨hf.mono (by walk_at "MY_AT"), hok, hl.mono (by walk_at "MY_AT"), groups_right f hok, hgl⟩ fun r h' tk' tl3 F' N' off3 hp => ?_
    subst hp
    obtain ⟨cs, as, ⟨dx, a1, a2, a3, a4, a5, a6, k1, k2, k3, k4, k5, k6, t1, v2, v3, v4, t6, mx, mdx⟩, hcs, hcomps⟩ := id hf
    obtain ⟨hok1, hok2, hok3, hok4, hok5⟩ := id hok
    obtain ⟨kk, hkk⟩ : ∃ kk, kk = Str.ofString f.kind := ⟨_, rfl⟩
    rw [← hkk] at mdx
    by_cases hpr : f.kind = "progressive"
    · have hkq : (kk == Str.ofString "progressive") = true := by rw [hkk, hpr]; decide +kernel
      clear hkk
      k_steps
      refine prog_spec.use KX T (by k_asm) (by k_asm) ⟨hf.mono (by walk_at "MY_AT"), hok⟩ fun r h' tk' tl4 F' N' off4 hp => ?_
      obtain ⟨ua, rfl, hua⟩ := hp
      k_steps
      refine bands_spec.use KX T (by k_asm) (by k_asm) ⟨hf.mono (by walk_at "MY_AT"), hok, hl.mono (by walk_at "MY_AT"), hgl, groupsOf_each f.ms⟩ fun r h' tk' tl5 F' N' off5 hp => ?_
      obtain ⟨da, rfl, hda⟩ := hp
      rw [bands_eq f hok] at hda
      k_steps
      refine ⟨?_⟩
      rename News _ _ _ _ => N9
      rename Fr _ _ _ _ => F9
      obtain ⟨cs9, nws2, N9, hf2, hus, hdu, mI2, mc2, hsc⟩ : ∃ cs9 nws2, News s1.heap _ _ nws2 ∧ FrameS (On nws2) x f ∧ ScansS (On nws2) ua cs9 ∧ LawsS (On nws2) _ cs9 ∧ (I, oI) ∈ nws2 ∧ (s1.heap.objs.size + 1, c9) ∈ nws2 ∧ ScriptOk f cs9 :=
        ⟨_, _, N9, hf.mono (by walk_at "MY_SUB2"), hua.mono (by walk_at "MY_SUB2"), hda.mono (by walk_at "MY_SUB2"), by k_mem, by k_mem, prog_ok f hok hpr⟩
      obtain ⟨hs1, hs2, hs3, hs4, hs5, hs6⟩ := hsc
      obtain ⟨uas, hul, huss⟩ := id hus
      have hul2 : uas.length = cs9.length := huss.length
      k_dflt (refine' comp_eval F9 rfl ?clo ?cell ?kind ?nm ?x ?_)
      walk_at "MY_COMP"
      k_steps
      refine CompAt.on0 (RefR fun S a c => LawS S a c) hul (refV_of huss) F9 N9 (by rw [List.length_map, sizeLine_eq]; omega) (fun C => ?eltA) (fun D h' tk ys made n F' N' oD mN hB => ?finA)
      case eltA =>
        clear F9 N9
        intro s' v c oC rest mC hps hv _ F N sub nsC hm
        obtain ⟨a, rfl, ha⟩ := hv
        k_steps
        refine (row_spec (c := c)).use KX T F N ⟨ha.mono fun _ _ h => (N _ (.tail _ (sub _ h))).1, (hs3 c hps).2.1⟩ fun r h' tk' tl' F' N' off hp => ?_
        obtain ⟨x, rfl, hx⟩ := hp
        k_unfold
        exact ⟨_, _, tl', rfl, F', N', off, x, rfl, hx⟩
      obtain ⟨rows, rfl, hrows⟩ := hB.refs (P := fun S a c => LawS S a c) (fun k h => h.mono k)
      clear F9 N9
      k_steps
      refine ⟨?_⟩
      rename Fr _ _ _ _ => F9
      rename News _ _ _ _ => N9
      have atN : ∀ a o, On nws2 a o → At h' a o := fun a o h => (N9 (a, o) (.tail _ (List.mem_append_right _ h))).1
      refine laws_ne (cs := cs9) ⟨_, ⟨_, _, (N9 _ (.head _)).1, rfl, rfl⟩, hrows.imp fun _ _ h => h.mono fun a o h => (N9 (a, o) (.tail _ (List.mem_append_left _ h))).1⟩ (hdu.mono atN) (by decide) ?_
      k_steps
      refine check_spec.use KX T (by k_asm) (by k_asm) ⟨hf2.mono atN, hok, hkf, hus.mono atN, hs3, hs4, hs1, by omega⟩ fun r h' tk' tl6 F' N' off6 hp => ?_
      subst hp
      k_steps
      rename Fr _ _ _ _ => F9
      rename News _ _ _ _ => N9
      replace atN : ∀ a o, On nws2 a o → At h' a o := fun a o h => (N9 (a, o) (List.mem_append_right _ (.tail _ (List.mem_append_right _ h)))).1
      refine complete_spec.use KX T F9 N9 ⟨hf2.mono atN, hok, hkf, hus.mono atN, hs3, hs4⟩ fun r h' tk' tl7 F' N' off7 hp => ?_
      clear F9 N9
      rw [hs5] at hp
      subst hp
      k_steps
      refine ⟨?_⟩
      rename Fr _ _ _ _ => F9
      rename News _ _ _ _ => N9
      refine kmk_slice F9 N9 (isList_on (tl := nws2) N9 hul ?sub) .none (.int _ _) (fun D2 h' F' N' l1 => ?_) (by with_unfolding_all rfl) (fun _ => by with_unfolding_all rfl) (by rw [List.size_toArray, List.length_map, sizeLine_eq]; omega)
      case sub =>
        intro p hp
        exact List.mem_append_right _ (List.mem_append_right _ (.tail _ (List.mem_append_right _ hp)))
      clear F9 N9
      rw [pick_last] at N'
      k_steps
      rename Fr _ _ _ _ => F9
      rename News _ _ _ _ => N9
      replace atN : ∀ a o, On nws2 a o → At h' a o := fun a o h => (N9 (a, o) (.tail _ (List.mem_append_right _ (List.mem_append_right _ (.tail _ (List.mem_append_right _ h)))))).1
      refine (complete_spec (cs := cs9.dropLast)).use KX T F9 N9 ⟨hf2.mono atN, hok, hkf, ⟨uas.dropLast, lstS_of (N9 _ (.head _)).1 (by simp [refs, List.map_dropLast]), (huss.imp fun _ _ y => y.mono atN).dropLast⟩, (fun c hc => hs3 c (List.dropLast_subset _ hc)), runOk_dropLast hs4⟩ fun r h' tk' tl8 F' N' off8 hp => ?_
      clear F9 N9
      rw [hs6] at hp
      subst hp
      k_steps
      rename Fr _ _ _ _ => F9
      rename News _ _ _ _ => N9
      refine ⟨rfl, _, _, _, [(s1.heap.objs.size + 1, c9)], rfl, F9, news_sub N9 ?_, off_cons nc (List.forall_mem_nil _), c9, _, rfl, dc9, Keep.of fun z hz => ?_⟩
      · exact List.forall_mem_cons.mpr ⟨List.mem_append_right _ (.tail _ (List.mem_append_right _ (List.mem_append_right _ (.tail _ (List.mem_append_right _ mI2))))), List.forall_mem_cons.mpr ⟨List.mem_append_right _ (.tail _ (List.mem_append_right _ (List.mem_append_right _ (.tail _ (List.mem_append_right _ mc2))))), List.forall_mem_nil _⟩⟩
      · simp only [List.contains_cons, List.contains_nil, Bool.or_false, Bool.or_eq_false_iff, beq_eq_false_iff_ne] at hz
        simp [hz]
    · have hkq : (kk == Str.ofString "progressive") = false := by rw [hkk]; rcases hkf with e | e | e <;> first | (exact absurd e hpr) | (rw [e]; decide +kernel)
      clear hkk
      k_steps
      refine seq_spec.use KX T (by k_asm) (by k_asm) ⟨hf.mono (by walk_at "MY_AT"), hok⟩ fun r h' tk' tl4 F' N' off4 hp => ?_
      obtain ⟨ua, rfl, hua⟩ := hp
      k_steps
      refine ⟨?_⟩
      rename Fr _ _ _ _ => F9
      rename News _ _ _ _ => N9
      obtain ⟨las, hll, hlots⟩ := id hl
      have hlal := hlots.length
      k_dflt (refine' comp_assign F9 ?sw rfl ?clo ?cell ?kind ?nm ?x ?y ?p0 ?_)
      walk_at "MY_COMP"
      case p0 => with_unfolding_all rfl
      k_steps
      refine CompAt.on0 (RefR fun S x ps => LawS S x (mkScan ps 0 (lastOf f) 0 0)) (hll.mono (by walk_at "MY_SUB2")) (refV_of (hlots.imp fun _ _ y => y.mono (S' := On nws) fun _ _ h => h)) F9 N9 (by rw [List.length_map, sizeLine_eq]; omega) (fun C => ?eltS) (fun D h' tk ys made n F' N' oD mN hB => ?finS)
      case eltS =>
        clear F9 N9
        intro s' v ps oC rest mC hps hv _ F N sub nsC hm
        obtain ⟨a, rfl, ha⟩ := hv
        have hpl := groupsOf_each f.ms ps hps
        have sub2 : ∀ p ∈ nws, p ∈ rest := fun p hp => sub p (List.mem_append_right _ (List.mem_append_right _ hp))
        have mx2 : (x, instObj 321 dx) ∈ rest := sub2 _ mx
        have mdx2 := sub2 _ mdx
        have mc2 : (s1.heap.objs.size + 1, c9) ∈ rest := sub2 _ mc
        k_steps
        refine (lscan_spec (ps := ps)).use KX T (by k_asm) (by k_asm) ⟨ha.mono fun a o h => (N (a, o) (.tail _ (sub2 _ h))).1, by omega⟩ fun r h' tk' tl' F' N' off hp => ?_
        obtain ⟨y, rfl, hy⟩ := hp
        k_unfold
        exact ⟨_, _, tl', rfl, F', N', off, y, rfl, hy⟩
      obtain ⟨das, rfl, hdas⟩ := hB.refs (P := fun S x ps => LawS S x (mkScan ps 0 (lastOf f) 0 0)) (fun k h => h.mono k)
      clear F9 N9
      have hda : LawsS (On ((D, W.listOf (refs das).toArray n) :: made)) D (seqD f) := ⟨das, ⟨_, _, .head _, rfl, rfl⟩, (hdas.imp fun _ _ h => h.mono fun _ _ h => .tail _ h).mapR⟩
      clear hB hdas
      k_steps
      refine ⟨?_⟩
      rename Fr _ _ _ _ => F9
      rename News _ _ _ _ => N9
      obtain ⟨cs9, nws2, N9, hf2, hus, hdu, mI2, mc2, hsc⟩ : ∃ cs9 nws2, News s1.heap _ _ nws2 ∧ FrameS (On nws2) x f ∧ ScansS (On nws2) ua cs9 ∧ LawsS (On nws2) _ cs9 ∧ (I, oI) ∈ nws2 ∧ (s1.heap.objs.size + 1, c9) ∈ nws2 ∧ ScriptOk f cs9 :=
        ⟨_, _, N9, hf.mono (by walk_at "MY_SUB2"), hua.mono (by walk_at "MY_SUB2"), hda.mono (by walk_at "MY_SUB2"), by k_mem, by k_mem, seq_ok f hok hpr⟩
      obtain ⟨hs1, hs2, hs3, hs4, hs5, hs6⟩ := hsc
      obtain ⟨uas, hul, huss⟩ := id hus
      have hul2 : uas.length = cs9.length := huss.length
      k_dflt (refine' comp_eval F9 rfl ?clo ?cell ?kind ?nm ?x ?_)
      walk_at "MY_COMP"
      k_steps
      refine CompAt.on0 (RefR fun S a c => LawS S a c) hul (refV_of huss) F9 N9 (by rw [List.length_map, sizeLine_eq]; omega) (fun C => ?eltB) (fun D h' tk ys made n F' N' oD mN hB => ?finB)
      case eltB =>
        clear F9 N9
        intro s' v c oC rest mC hps hv _ F N sub nsC hm
        obtain ⟨a, rfl, ha⟩ := hv
        k_steps
        refine (row_spec (c := c)).use KX T F N ⟨ha.mono fun _ _ h => (N _ (.tail _ (sub _ h))).1, (hs3 c hps).2.1⟩ fun r h' tk' tl' F' N' off hp => ?_
        obtain ⟨x, rfl, hx⟩ := hp
        k_unfold
        exact ⟨_, _, tl', rfl, F', N', off, x, rfl, hx⟩
      obtain ⟨rows, rfl, hrows⟩ := hB.refs (P := fun S a c => LawS S a c) (fun k h => h.mono k)
      clear F9 N9
      k_steps
      refine ⟨?_⟩
      rename Fr _ _ _ _ => F9
      rename News _ _ _ _ => N9
      have atN : ∀ a o, On nws2 a o → At h' a o := fun a o h => (N9 (a, o) (.tail _ (List.mem_append_right _ h))).1
      refine laws_ne (cs := cs9) ⟨_, ⟨_, _, (N9 _ (.head _)).1, rfl, rfl⟩, hrows.imp fun _ _ h => h.mono fun a o h => (N9 (a, o) (.tail _ (List.mem_append_left _ h))).1⟩ (hdu.mono atN) (by decide) ?_
      k_steps
      refine check_spec.use KX T (by k_asm) (by k_asm) ⟨hf2.mono atN, hok, hkf, hus.mono atN, hs3, hs4, hs1, by omega⟩ fun r h' tk' tl6 F' N' off6 hp => ?_
      subst hp
      k_steps
      rename Fr _ _ _ _ => F9
      rename News _ _ _ _ => N9
      replace atN : ∀ a o, On nws2 a o → At h' a o := fun a o h => (N9 (a, o) (List.mem_append_right _ (.tail _ (List.mem_append_right _ h)))).1
      refine complete_spec.use KX T F9 N9 ⟨hf2.mono atN, hok, hkf, hus.mono atN, hs3, hs4⟩ fun r h' tk' tl7 F' N' off7 hp => ?_
      clear F9 N9
      rw [hs5] at hp
      subst hp
      k_steps
      refine ⟨?_⟩
      rename Fr _ _ _ _ => F9
      rename News _ _ _ _ => N9
      refine kmk_slice F9 N9 (isList_on (tl := nws2) N9 hul ?subB) .none (.int _ _) (fun D2 h' F' N' l1 => ?_) (by with_unfolding_all rfl) (fun _ => by with_unfolding_all rfl) (by rw [List.size_toArray, List.length_map, sizeLine_eq]; omega)
      case subB =>
        intro p hp
        exact List.mem_append_right _ (List.mem_append_right _ (.tail _ (List.mem_append_right _ hp)))
      clear F9 N9
      rw [pick_last] at N'
      k_steps
      rename Fr _ _ _ _ => F9
      rename News _ _ _ _ => N9
      replace atN : ∀ a o, On nws2 a o → At h' a o := fun a o h => (N9 (a, o) (.tail _ (List.mem_append_right _ (List.mem_append_right _ (.tail _ (List.mem_append_right _ h)))))).1
      refine (complete_spec (cs := cs9.dropLast)).use KX T F9 N9 ⟨hf2.mono atN, hok, hkf, ⟨uas.dropLast, lstS_of (N9 _ (.head _)).1 (by simp [refs, List.map_dropLast]), (huss.imp fun _ _ y => y.mono atN).dropLast⟩, (fun c hc => hs3 c (List.dropLast_subset _ hc)), runOk_dropLast hs4⟩ fun r h' tk' tl8 F' N' off8 hp => ?_
      clear F9 N9
      rw [hs6] at hp
      subst hp
      k_steps
      rename Fr _ _ _ _ => F9
      rename News _ _ _ _ => N9
      refine ⟨rfl, _, _, _, [(s1.heap.objs.size + 1, c9)], rfl, F9, news_sub N9 ?_, off_cons nc (List.forall_mem_nil _), c9, _, rfl, dc9, Keep.of fun z hz => ?_⟩
      · exact List.forall_mem_cons.mpr ⟨List.mem_append_right _ (.tail _ (List.mem_append_right _ (List.mem_append_right _ (.tail _ (List.mem_append_right _ mI2))))), List.forall_mem_cons.mpr ⟨List.mem_append_right _ (.tail _ (List.mem_append_right _ (List.mem_append_right _ (.tail _ (List.mem_append_right _ mc2))))), List.forall_mem_nil _⟩⟩
      · simp only [List.contains_cons, List.contains_nil, Bool.or_false, Bool.or_eq_false_iff, beq_eq_false_iff_ne] at hz
        simp [hz])
end
end Mine

set_option maxRecDepth 100000 in
set_option maxHeartbeats 8000000 in
theorem PySem.Challenge.cw_nz0253_01_holds : PySem.Challenge.rw_nz0253_01.Holds := by
  exact Mine.lawP
