import PyProof.Rows.All
import Wide.All
import OpenK.AllK
import Wide.FinOn
import Lean
import PySem.Challenge.RW_no0375_01
open PySem PySem.W PyProof.Rows PySem.Calls PySem.Spec
set_option Elab.async false
set_option compiler.extract_closed false
set_option maxRecDepth 100000
set_option maxHeartbeats 8000000
namespace Mine
local macro_rules | `(tactic| omega) => `(tactic| first | with_reducible assumption | with_reducible exact Nat.zero_le _ | with_reducible exact Int.natCast_nonneg _ | (law_clear; grind_order) | (law_clear; lia))
section
local macro_rules | `(tactic| o_head $H) => `(tactic| (have keep := $H; clear keep; refine (fun (_ : True) h => h) ?hw ?hc))
local macro_rules | `(tactic| w_witness2) => `(tactic| exact trivial)
set_option maxRecDepth 100000 in
set_option maxHeartbeats 8000000 in
open_top hd0 for PySem.Challenge.rw_no0375_01.row
end
theorem fill (w : World) (s : Shared) : (Mine.hd0.heap_1 w.params).In s.heap → PySem.Challenge.rw_no0375_01 = PySem.Challenge.rw_no0375_01 := by
  k_fill
  intro _; rfl
-- 01_base

/-- every object off the list stands in h' as it stood in h -/
noncomputable def KeepBut (M : List Addr) (h h' : Heap) : Prop := ∀ b o, b ∉ M → h.get? b = some o → h'.get? b = some o
/-- every object stands as it stood -/
noncomputable def Keep (h h' : Heap) : Prop := ∀ b o, h.get? b = some o → h'.get? b = some o
theorem Keep.refl (h : Heap) : Keep h h := fun _ _ e => e
theorem Keep.trans {a b c : Heap} (x : Keep a b) (y : Keep b c) : Keep a c := fun p o e => y p o (x p o e)
theorem Keep.but {a b : Heap} {M : List Addr} (x : Keep a b) : KeepBut M a b := fun p o _ e => x p o e
theorem KeepBut.keep {a b : Heap} (x : KeepBut [] a b) : Keep a b := fun p o e => x p o (by simp) e
theorem KeepBut.trans {M : List Addr} {a b c : Heap} (x : KeepBut M a b) (y : KeepBut M b c) : KeepBut M a c := fun p o n e => y p o n (x p o n e)

/-- a news' address is no frame's -/
noncomputable def OffFrames (fr : List Env) (M : List Addr) : Prop := ∀ a ∈ M, ∀ env ∈ fr, env.frame ≠ some a
theorem OffFrames.nil {fr : List Env} : OffFrames fr [] := fun _ h => nomatch h

theorem funFrames_keepBut {base h h' : Heap} {M : List Addr} (k : KeepBut M h h') : ∀ {fr : List Env}, OffFrames fr M → h.FunFrames base fr → h'.FunFrames base fr
  | [], _, _ => trivial
  | env :: r, no, ⟨hk, ⟨L, o, hf, hn, ho, hd⟩, hr⟩ =>
    ⟨hk, ⟨L, o, hf, hn, k L o (fun m => no L m env (.head _) hf) ho, hd⟩, funFrames_keepBut k (fun a m e he => no a m e (.tail _ he)) hr⟩

theorem keepBut_hideAll (M : List Addr) (h : Heap) : KeepBut M h (hideAll h M) := fun _ _ n e => hideAll_get _ e n

/-- the entry into a def of the text: M are the objects that the call may turn -/
theorem enter {prog : Program} {w : World} {A : Around} {s : Shared} {base : Heap} {fr : List Env} {K : Frag} {p : Program} {loose : List Str} {mean : ExcName → Option Value} {mg mb : Str → Option Value}
    {R : Result → Shared → Prop} {name qual : Str} {params : Arguments} {body : List Stmt} {scope : Scope} {dV kV doc pm cdv ct oc : Value} {an od : Option Addr} {osl : Array (Option Value)} {f : Addr} {args : Args} {binds : List (Str × Value)}
    (M : List (Addr × Obj)) (B : Below A base fr s.heap) (X : K.In base) (T : Top p loose mean mg mb base)
    (hM : ∀ q ∈ M, s.heap.get? q.1 = some q.2 ∧ base.get? q.1 = none) (hO : OffFrames fr (M.map (·.1)))
    (ho : K.lookup f = some ⟨oc, od, .func (fnOf name qual params body scope dV kV doc pm an cdv ct), osl⟩) (hcd : codeIn K cdv qual = true) (hroom : A.depth < recursionLimit)
    (hbind : BindsTo s (fnOf name qual params body scope dV kV doc pm an cdv ct) args binds) (hloc : ∀ y ∈ binds, scope.names.lookup y.1 = some .local)
    (h : ∀ g L' h₁ tk, KeepBut (M.map (·.1)) s.heap g → Keep g s.heap → Fr g L' h₁ (fun y => binds.reverse.lookup y) → News g L' h₁ M → Below A base fr g → K.In g → Top p loose mean mg mb g →
      wpAny (model prog w) (A.deeper (envOf qual scope L' f cdv)) (execs body (envOf qual scope L' f cdv))
        (fun fl s' => R (.ok (.ret (match fl with | .ret v => v | _ => .none))) s')
        (fun e s' => wpAny (model prog w) (A.deeper (envOf qual scope L' f cdv)) (leaving (envOf qual scope L' f cdv) e) (fun _ s'' => R (.error e) s'') (fun e' s'' => R (.error e') s'') s')
        { s with heap := h₁, toks := tk })
    (hcell : ∀ x ∈ scope.names, x.2 ≠ .cell) (hco : scope.isCoroutine = false) (hgen : scope.isGenerator = false) (hk : scope.kind = .function) :
    codeAny (model prog w) A (.call (.ref f) args) R s := by
  have kb := keepBut_hideAll (M.map (·.1)) s.heap
  have kk : Keep (hideAll s.heap (M.map (·.1))) s.heap := fun b o e => of_hideAll _ e
  have st : base.StaysIn (hideAll s.heap (M.map (·.1))) := fun b o e => hideAll_get _ (B.stays b o e) fun m => by
    obtain ⟨q, hq, rfl⟩ := List.mem_map.mp m
    rw [(hM q hq).2] at e; cases e
  have Bg : Below A base fr (hideAll s.heap (M.map (·.1))) := ⟨B.stack, st, funFrames_keepBut kb hO B.frames⟩
  refine codeAny_call_def (fd := fnOf name qual params body scope dV kV doc pm an cdv ct) (body := body) (binds := binds) hroom (B.stays _ _ (X _ _ ho)) rfl
    (T.nolimit.keeps B.stays) (codeRec_of (X.keeps B.stays) hcd) rfl hbind hcell hloc (fun h₁ hns hk₁ => ?_) hco hgen hk
  exact h _ s.heap.objs.size h₁ _ kb kk ⟨hns, fun b o e => hk₁ b o (kk b o e), Nat.le_of_eq (hideAll_size _ _)⟩
    (fun q hq => ⟨hk₁ _ _ (hM q hq).1, Nat.ne_of_lt (Heap.lt_size (hM q hq).1), hideAll_none _ (List.mem_map_of_mem hq)⟩) Bg (X.keeps st) (T.keeps st)

/-- what the walked body has kept, told of the heap ahead of the call -/
theorem kept {g h h' : Heap} {L : Addr} {m : Str → Option Value} {M : List Addr} (k : KeepBut M h g) (F : Fr g L h' m) : KeepBut M h h' := fun b o n e => F.keep b o (k b o n e)
theorem kept0 {g h h' : Heap} {L : Addr} {m : Str → Option Value} (k : KeepBut [] h g) (F : Fr g L h' m) : Keep h h' := (kept k F).keep

theorem Fr.keepAll {g h h' : Heap} {L : Addr} {m : Str → Option Value} (F : Fr g L h m) (k : Keep h h') : Fr g L h' m := by
  obtain ⟨⟨oL, a1, a2, hL, a3⟩, kp, ab⟩ := F
  exact ⟨⟨oL, a1, a2, k _ _ hL, a3⟩, fun b o e => k b o (kp b o e), ab⟩
theorem News.keepAll {g h h' : Heap} {L : Addr} {news : List (Addr × Obj)} (N : News g L h news) (k : Keep h h') : News g L h' news := fun q hq => ⟨k _ _ (N q hq).1, (N q hq).2⟩
theorem Below.keepAll {A : Around} {base h h' : Heap} {fr : List Env} (B : Below A base fr h) (k : Keep h h') : Below A base fr h' :=
  ⟨B.stack, fun b o e => k b o (B.stays b o e), B.frames.of_keeps fun b o e _ => ⟨o, k b o e, rfl⟩⟩
/-- the parts of a tuple, of a conjunction -/
theorem pr2 {α β : Type} {P : α × β → Prop} (x : ∀ a b, P (a, b)) (c : α × β) : P c := x c.1 c.2
theorem pr3 {α β γ : Type} {P : α × β × γ → Prop} (x : ∀ a b c, P (a, b, c)) (c : α × β × γ) : P c := x c.1 c.2.1 c.2.2
theorem pr4 {α β γ δ : Type} {P : α × β × γ × δ → Prop} (x : ∀ a b c d, P (a, b, c, d)) (c : α × β × γ × δ) : P c := x c.1 c.2.1 c.2.2.1 c.2.2.2
theorem pr5 {α β γ δ ε : Type} {P : α × β × γ × δ × ε → Prop} (x : ∀ a b c d e, P (a, b, c, d, e)) (c : α × β × γ × δ × ε) : P c := x c.1 c.2.1 c.2.2.1 c.2.2.2.1 c.2.2.2.2
theorem pr6 {α β γ δ ε ζ : Type} {P : α × β × γ × δ × ε × ζ → Prop} (x : ∀ a b c d e f, P (a, b, c, d, e, f)) (c : α × β × γ × δ × ε × ζ) : P c := x c.1 c.2.1 c.2.2.1 c.2.2.2.1 c.2.2.2.2.1 c.2.2.2.2.2
theorem pr7 {α β γ δ ε ζ η : Type} {P : α × β × γ × δ × ε × ζ × η → Prop} (x : ∀ a b c d e f g, P (a, b, c, d, e, f, g)) (c : α × β × γ × δ × ε × ζ × η) : P c := x c.1 c.2.1 c.2.2.1 c.2.2.2.1 c.2.2.2.2.1 c.2.2.2.2.2.1 c.2.2.2.2.2.2
theorem pr8 {α β γ δ ε ζ η θ : Type} {P : α × β × γ × δ × ε × ζ × η × θ → Prop} (x : ∀ a b c d e f g h, P (a, b, c, d, e, f, g, h)) (c : α × β × γ × δ × ε × ζ × η × θ) : P c := x c.1 c.2.1 c.2.2.1 c.2.2.2.1 c.2.2.2.2.1 c.2.2.2.2.2.1 c.2.2.2.2.2.2.1 c.2.2.2.2.2.2.2
theorem an2 {a b R : Prop} (x : a → b → R) (z : a ∧ b) : R := x z.1 z.2
theorem an3 {a b c R : Prop} (x : a → b → c → R) (z : a ∧ b ∧ c) : R := x z.1 z.2.1 z.2.2
theorem an4 {a b c d R : Prop} (x : a → b → c → d → R) (z : a ∧ b ∧ c ∧ d) : R := x z.1 z.2.1 z.2.2.1 z.2.2.2
theorem an5 {a b c d e R : Prop} (x : a → b → c → d → e → R) (z : a ∧ b ∧ c ∧ d ∧ e) : R := x z.1 z.2.1 z.2.2.1 z.2.2.2.1 z.2.2.2.2
theorem an6 {a b c d e f R : Prop} (x : a → b → c → d → e → f → R) (z : a ∧ b ∧ c ∧ d ∧ e ∧ f) : R := x z.1 z.2.1 z.2.2.1 z.2.2.2.1 z.2.2.2.2.1 z.2.2.2.2.2
theorem an7 {a b c d e f g R : Prop} (x : a → b → c → d → e → f → g → R) (z : a ∧ b ∧ c ∧ d ∧ e ∧ f ∧ g) : R := x z.1 z.2.1 z.2.2.1 z.2.2.2.1 z.2.2.2.2.1 z.2.2.2.2.2.1 z.2.2.2.2.2.2
theorem an8 {a b c d e f g h R : Prop} (x : a → b → c → d → e → f → g → h → R) (z : a ∧ b ∧ c ∧ d ∧ e ∧ f ∧ g ∧ h) : R := x z.1 z.2.1 z.2.2.1 z.2.2.2.1 z.2.2.2.2.1 z.2.2.2.2.2.1 z.2.2.2.2.2.2.1 z.2.2.2.2.2.2.2
theorem an9 {a b c d e f g h i R : Prop} (x : a → b → c → d → e → f → g → h → i → R) (z : a ∧ b ∧ c ∧ d ∧ e ∧ f ∧ g ∧ h ∧ i) : R := x z.1 z.2.1 z.2.2.1 z.2.2.2.1 z.2.2.2.2.1 z.2.2.2.2.2.1 z.2.2.2.2.2.2.1 z.2.2.2.2.2.2.2.1 z.2.2.2.2.2.2.2.2


-- 02_fly
/-! ## the fault in flight -/
/-- the dict of a fault: its words and its place -/
noncomputable def FaultDict (h : Heap) (d : Addr) (p : Int) : Prop :=
  ∃ h1 h2 t1 t2 t3 v n sl, h.get? d = some ⟨.type "dict", none, .dict #[⟨h1, .str "what" t1, v⟩, ⟨h2, .str "at" t2, .int p t3⟩] n, sl⟩
theorem FaultDict.slots {h h' : Heap} {d : Addr} {p : Int} (x : FaultDict h d p) (k : h.UpToSlots h') : FaultDict h' d p := by
  obtain ⟨h1, h2, t1, t2, t3, v, n, sl, e⟩ := x
  obtain ⟨sl', e'⟩ := k d _ e (fun vs q => by cases q)
  exact ⟨h1, h2, t1, t2, t3, v, n, sl', e'⟩
/-- a fault that is underway: fl tells in which frame -/
noncomputable def Fly (base : Heap) (l : List Env) (e : Addr) (p : Int) (fl : Value) (h : Heap) : Prop :=
  (base.StaysIn h ∧ base.get? e = none ∧ h.FunFrames base l) ∧ ∃ dE sl vs T oT ts, h.get? e = some ⟨.ref 52, some dE, .fields vs, sl⟩ ∧ vs[1]? = some (.ref T) ∧
    (base.get? T = none ∧ T ≠ e ∧ h.get? T = some oT ∧ oT.data = .fields ts ∧ ts[3]? = some fl) ∧ FaultDict h dE p
/-- a fault just made -/
noncomputable def Fresh (base : Heap) (e : Addr) (p : Int) (h : Heap) : Prop :=
  base.get? e = none ∧ ∃ dE sl vs, h.get? e = some ⟨.ref 52, some dE, .fields vs, sl⟩ ∧ vs[1]? = some .none ∧ FaultDict h dE p

theorem notFrame {base h : Heap} {l : List Env} (hl : h.FunFrames base l) {b : Addr} {o : Obj} {vs : Array Value} (e : h.get? b = some o) (hd : o.data = .fields vs) : b ∉ l.filterMap (·.frame) := fun hm => by
  obtain ⟨_, o', ho, hn⟩ := hl.mem hm
  rw [e] at ho; cases ho
  exact hn vs hd

section
variable {M : Model} {A : Around} {E : Value → Shared → Prop} {s : Shared} {base : Heap} {env : Env} {outer : List Env} {L e dE : Addr} {p : Int} {vs : Array Value} {sl : Array (Option Value)}

theorem entry_fly {head : Value} {had : Bool} {Q : Unit → Shared → Prop} (hfr : A.frames = some (env :: outer)) (hl : s.heap.FunFrames base (env :: outer)) (hf : env.frame = some L)
    (he : s.heap.get? e = some ⟨.ref 52, some dE, .fields vs, sl⟩) (hkb : base.StaysIn s.heap) (hen : base.get? e = none) (hsz : 1 < vs.size) (hd : FaultDict s.heap dE p)
    (h : ∀ h', Fly base (env :: outer) e p (rawInt L) h' → s.heap.UpToSlots h' → Q () { s with heap := h' }) :
    wpAny M A (do setField (.ref e) 1 (← EntryCells.newEntry head (← frameOf env) .none (rawInt L) .none (← entryPlaceOf L had))) Q E s := by
  refine wpAny_bind (wpAny_frameOf_fun hfr hl hf fun h₁ hs => ?_)
  refine wpAny_bind (wpAny_entryPlaceOf fun pl hpl => ?_)
  unfold EntryCells.newEntry newFields
  refine wpAny_bind (wpAny_newObj_type ?_ (hpl.sizeOk5 _ _ _ _ _))
  have e1 : h₁.get? e = some ⟨.ref 52, some dE, .fields vs, sl⟩ := (hs.2.1 e (notFrame hl he rfl)).trans he
  have b1 : base.StaysIn h₁ := fun b o q => (hs.2.1 b fun hm => by rw [(hl.mem hm).1] at q; cases q).trans (hkb b o q)
  generalize hT : ([head, .ref L, .none, rawInt L, .none] ++ (if pl.isEmpty then List.replicate 6 Value.none else pl)).toArray = ts
  have t3 : ts[3]? = some (rawInt L) := by rw [← hT]; simp
  have e2 := Heap.get?_push_of_some (h := h₁) { cls := .type "traceback", dict := none, data := .fields ts } e1
  refine wpAny_setField e2 rfl hsz (h _ ?_ ?_)
  · have Te : h₁.objs.size ≠ e := Nat.ne_of_gt (Heap.lt_size e1)
    have keep : ∀ b o, b ≠ e → h₁.get? b = some o → ((h₁.push { cls := .type "traceback", dict := none, data := .fields ts }).update e (Obj.mapFields (·.setIfInBounds 1 (Value.ref h₁.objs.size)))).get? b = some o := fun b o hb q => by
      rw [Heap.get?_update_other _ _ (Ne.symm hb)]; exact Heap.get?_push_of_some _ q
    have dk : ∀ b o, s.heap.get? b = some o → (∀ vs, o.data ≠ .fields vs) → b ≠ e := fun b o q hn x => by
      rw [x, he] at q; cases q; exact hn vs rfl
    refine ⟨⟨fun b o q => keep b o (fun x => by rw [x, hen] at q; cases q) (b1 b o q), hen, hl.of_keeps fun b o q hn => ?_⟩, dE, sl, _, h₁.objs.size, _, ts,
      Heap.get?_update_self (Obj.mapFields (·.setIfInBounds 1 (Value.ref h₁.objs.size))) e2 rfl, by simp [hsz], ⟨b1.fresh, Te, (Heap.get?_update_other _ _ (Ne.symm Te)).trans (Heap.get?_push_size h₁ rfl), rfl, t3⟩, ?_⟩
    · obtain ⟨sl', x⟩ := hs.2.2 b o q
      exact ⟨_, keep b _ (dk b o q hn) x, rfl⟩
    · exact hd.slots fun b o q hn => by
        obtain ⟨sl', x⟩ := hs.2.2 b o q
        exact ⟨sl', keep b _ (dk b o q hn) x⟩
  · intro b o q hn
    obtain ⟨sl', x⟩ := hs.2.2 b o q
    refine ⟨sl', ?_⟩
    rw [Heap.get?_update_other _ _ (fun z => by rw [← z, he] at q; cases q; exact hn vs rfl)]
    exact Heap.get?_push_of_some _ x

theorem note_first {Q : Unit → Shared → Prop} (hfr : A.frames = some (env :: outer)) (hl : s.heap.FunFrames base (env :: outer)) (hf : env.frame = some L) (hkb : base.StaysIn s.heap) (x : Fresh base e p s.heap)
    (h : ∀ h', Fly base (env :: outer) e p (rawInt L) h' → s.heap.UpToSlots h' → Q () { s with heap := h' }) : wpAny M A (noteFrame (.ref e) env) Q E s := by
  obtain ⟨hen, dE, sl, vs, he, h1, hd⟩ := x
  unfold noteFrame
  simp only [hf]
  refine wpAny_bind (wpAny_field he rfl h1 ?_)
  rw [if_neg (by decide)]
  exact entry_fly hfr hl hf he hkb hen (Array.getElem?_eq_some_iff.mp h1).1 hd h

theorem note_next {Q : Unit → Shared → Prop} (hfr : A.frames = some (env :: outer)) (hf : env.frame = some L) (x : Fly base (env :: outer) e p .none s.heap)
    (h : ∀ h', Fly base (env :: outer) e p (rawInt L) h' → s.heap.UpToSlots h' → Q () { s with heap := h' }) : wpAny M A (noteFrame (.ref e) env) Q E s := by
  obtain ⟨⟨hkb, hen, hl⟩, dE, sl, vs, T, oT, ts, he, h1, ⟨nT, Te, hT, dT, h3⟩, hd⟩ := x
  unfold noteFrame
  simp only [hf]
  refine wpAny_bind (wpAny_field he rfl h1 ?_)
  rw [if_pos (show (Value.ref T != Value.none) = true from by simp)]
  refine wpAny_bind (wpAny_field hT dT h3 ?_)
  rw [if_neg (show ¬ ((Value.none == rawInt L) = true) from by simp [rawInt])]
  refine wpAny_bind (wpAny_setField hT dT (Array.getElem?_eq_some_iff.mp h3).1 ?_)
  have other : ∀ b, b ≠ T → (s.heap.update T (Obj.mapFields (·.setIfInBounds 3 Value.none))).get? b = s.heap.get? b := fun b hb => Heap.get?_update_other _ _ (Ne.symm hb)
  have nf : ∀ b o, s.heap.get? b = some o → (∀ vs, o.data ≠ .fields vs) → b ≠ T := fun b o q hn z => by
    rw [z, hT] at q; cases q; exact hn ts dT
  have u : s.heap.UpToSlots (s.heap.update T (Obj.mapFields (·.setIfInBounds 3 Value.none))) := fun b o q hn => ⟨o.slots, (other b (nf b o q hn)).trans q⟩
  exact entry_fly hfr (hl.of_keeps fun b o q hn => ⟨o, (other b (nf b o q hn)).trans q, rfl⟩) hf ((other e (Ne.symm Te)).trans he)
    (fun b o q => (other b fun z => by rw [z, nT] at q; cases q).trans (hkb b o q)) hen (Array.getElem?_eq_some_iff.mp h1).1 (hd.slots u) fun h' x1 x2 => h h' x1 (u.trans x2)

theorem flight_off {l : List Env} {fl : Value} {Q : Unit → Shared → Prop} (x : Fly base l e p fl s.heap)
    (h : ∀ h', Fly base l e p .none h' → s.heap.UpToSlots h' → Q () { s with heap := h' }) : wpAny M A (setFlight (.ref e) none) Q E s := by
  obtain ⟨⟨hkb, hen, hl⟩, dE, sl, vs, T, oT, ts, he, h1, ⟨nT, Te, hT, dT, h3⟩, hd⟩ := x
  unfold setFlight
  refine wpAny_bind (wpAny_field he rfl h1 ?_)
  rw [if_pos (show (Value.ref T != Value.none) = true from by simp)]
  have s3 := (Array.getElem?_eq_some_iff.mp h3).1
  have other : ∀ b, b ≠ T → (s.heap.update T (Obj.mapFields (·.setIfInBounds 3 Value.none))).get? b = s.heap.get? b := fun b hb => Heap.get?_update_other _ _ (Ne.symm hb)
  have nf : ∀ b o, s.heap.get? b = some o → (∀ vs, o.data ≠ .fields vs) → b ≠ T := fun b o q hn z => by
    rw [z, hT] at q; cases q; exact hn ts dT
  have u : s.heap.UpToSlots (s.heap.update T (Obj.mapFields (·.setIfInBounds 3 Value.none))) := fun b o q hn => ⟨o.slots, (other b (nf b o q hn)).trans q⟩
  refine wpAny_setField hT dT s3 (h _ ⟨⟨fun b o q => (other b fun z => by rw [z, nT] at q; cases q).trans (hkb b o q), hen, hl.of_keeps fun b o q hn => ⟨o, (other b (nf b o q hn)).trans q, rfl⟩⟩,
    dE, sl, vs, T, _, _, (other e (Ne.symm Te)).trans he, h1, ⟨nT, Te, Heap.get?_update_self _ hT (Obj.isFreed_of_fields (Obj.data_mapFields dT _)), Obj.data_mapFields dT _, by simp [s3]⟩, hd.slots u⟩ u)

theorem note_again {l : List Env} {Q : Unit → Shared → Prop} (hf : env.frame = some L) (x : Fly base l e p (rawInt L) s.heap) (h : Q () s) : wpAny M A (noteFrame (.ref e) env) Q E s := by
  obtain ⟨_, dE, sl, vs, T, oT, ts, he, h1, ⟨nT, Te, hT, dT, h3⟩, hd⟩ := x
  unfold noteFrame
  simp only [hf]
  refine wpAny_bind (wpAny_field he rfl h1 ?_)
  rw [if_pos (show (Value.ref T != Value.none) = true from by simp)]
  refine wpAny_bind (wpAny_field hT dT h3 ?_)
  rw [if_pos (show (rawInt L == rawInt L) = true from by simp)]
  exact wpAny_pure h
theorem Fly.out {fl : Value} {h : Heap} (x : Fly base (env :: outer) e p fl h) : Fly base outer e p fl h := ⟨⟨x.1.1, x.1.2.1, x.1.2.2.2.2⟩, x.2⟩

theorem leave_first {Q : Unit → Shared → Prop} (hfr : A.frames = some (env :: outer)) (hl : s.heap.FunFrames base (env :: outer)) (hf : env.frame = some L) (hkb : base.StaysIn s.heap) (x : Fresh base e p s.heap)
    (h : ∀ h', Fly base outer e p .none h' → s.heap.UpToSlots h' → Q () { s with heap := h' }) : wpAny M A (leaving env (.ref e)) Q E s := by
  unfold leaving
  exact wpAny_bind (note_first hfr hl hf hkb x fun h₁ x₁ u₁ => flight_off x₁ fun h₂ x₂ u₂ => h h₂ x₂.out (u₁.trans u₂))
theorem leave_next {Q : Unit → Shared → Prop} (hfr : A.frames = some (env :: outer)) (hf : env.frame = some L) (x : Fly base (env :: outer) e p .none s.heap)
    (h : ∀ h', Fly base outer e p .none h' → s.heap.UpToSlots h' → Q () { s with heap := h' }) : wpAny M A (leaving env (.ref e)) Q E s := by
  unfold leaving
  exact wpAny_bind (note_next hfr hf x fun h₁ x₁ u₁ => flight_off x₁ fun h₂ x₂ u₂ => h h₂ x₂.out (u₁.trans u₂))
end


-- 03_fault
theorem fault_cls {w : World} {h : Heap} (X : (Mine.hd0.heap_1 w.params).In h) : ∃ nm q N bs bm hdct sn sub ab col dd k0 k1 k2 k3 k5 newId,
    h.get? 52 = some (excClassObj nm q 52 N bs bm hdct sn sub ab col dd k0 k1 k2 k3 k5 newId) ∧ bm.contains (.type "BaseException") = true :=
  ⟨_, _, _, _, _, _, _, _, _, _, _, _, _, _, _, _, _, X 52 _ (by k_is), by decide +kernel⟩

theorem fault_cls_on {w : World} {h : Heap} {P : Prop} (X : (Mine.hd0.heap_1 w.params).In h) (k : ∀ nm q N bs bm hdct sn sub ab col dd k0 k1 k2 k3 k5 newId,
    h.get? 52 = some (excClassObj nm q 52 N bs bm hdct sn sub ab col dd k0 k1 k2 k3 k5 newId) → bm.contains (.type "BaseException") = true → P) : P := by
  obtain ⟨nm, q, N, bs, bm, hdct, sn, sub, ab, col, dd, k0, k1, k2, k3, k5, newId, hC, hbase⟩ := fault_cls X
  exact k nm q N bs bm hdct sn sub ab col dd k0 k1 k2 k3 k5 newId hC hbase
theorem fresh_on {base h : Heap} {e : Addr} {p : Int} {P : Prop} (x : Fresh base e p h) (k : ∀ dE sl vs, h.get? e = some ⟨.ref 52, some dE, .fields vs, sl⟩ → vs[1]? = some .none → P) : P := by
  obtain ⟨_, dE, sl, vs, he, v1, _⟩ := x
  exact k dE sl vs he v1
theorem fly_on {base h : Heap} {l : List Env} {e : Addr} {p : Int} {fl : Value} {P : Prop} (x : Fly base l e p fl h) (k : ∀ dE sl vs, base.StaysIn h → h.get? e = some ⟨.ref 52, some dE, .fields vs, sl⟩ → FaultDict h dE p → P) : P := by
  obtain ⟨⟨hst, _⟩, dE, sl, vs, _, _, _, he, _, _, hd⟩ := x
  exact k dE sl vs hst he hd
section
variable {M : Model} {A : Around} {E : Value → Shared → Prop} {s : Shared} {env : Env} {base : Heap} {w : World}
theorem raise_stmt {x : Sem Value} {Q : Flow → Shared → Prop} (hh : A.handled = none)
    (h : wpAny M A x (fun v s₁ => ∃ e p, v = .ref e ∧ (Mine.hd0.heap_1 w.params).In s₁.heap ∧ Fresh base e p s₁.heap ∧ E (.ref e) s₁) E s) :
    wpAny M A (raiseStmt env (some x) none) Q E s := by
  unfold raiseStmt
  refine wpAny_bind (wpAny_mono h (fun v s₁ h₁ => ?_) fun _ _ x => x)
  obtain ⟨e, p, rfl, X, hF, hE⟩ := h₁
  refine fresh_on hF fun dE sl vs he v1 => fault_cls_on X fun nm q N bs bm hdct sn sub ab col dd k0 k1 k2 k3 k5 newId hC hbase => ?_
  have hcB : (Value.ref 52 :: bm).contains (.type "BaseException") = true := by rw [List.contains_cons, hbase, Bool.or_true]
  obtain ⟨hp, g, d, tk, os⟩ := s₁
  repeat (first | with_reducible refine wpAny_loadPart_at he ?_ | with_reducible refine wpAny_loadPart_at hC ?_ | (with_reducible refine wpAny_isSubtype_exc hC ?_; rw [hcB]) | wp_step)
  rw [v1]
  refine wpAny_pure ?_
  rw [if_neg (by decide)]
  exact wpAny_pure (wpAny_raiseNew_none hh hE)

theorem raise_exec {x : PySem.Expr} {pos : Pos} {Q : Flow → Shared → Prop} (hh : A.handled = none)
    (h : wpAny M A (eval x env) (fun v s₁ => ∃ e p, v = .ref e ∧ (Mine.hd0.heap_1 w.params).In s₁.heap ∧ Fresh base e p s₁.heap ∧ E (.ref e) s₁) E s) :
    wpAny M A (exec (.Raise (some x) none pos) env) Q E s := by
  show wpAny M A (do standAt pos; raiseStmt env (some (do let v ← eval x env; standAt pos; pure v)) none) Q E s
  exact wpAny_bind (wpAny_standAt (raise_stmt hh (wpAny_bind (wpAny_mono h (fun v s₁ h₁ => wpAny_bind (wpAny_standAt (wpAny_pure h₁))) fun _ _ x => x))))
end

/-- the end of a raise's expression -/
noncomputable def RaiseEnd (w : World) (base : Heap) (E : Value → Shared → Prop) (v : Value) (s₁ : Shared) : Prop := ∃ e p, v = .ref e ∧ (Mine.hd0.heap_1 w.params).In s₁.heap ∧ Fresh base e p s₁.heap ∧ E (.ref e) s₁
theorem raise_end {M : Model} {A : Around} {E : Value → Shared → Prop} {s : Shared} {env : Env} {base : Heap} {w : World} {x : PySem.Expr} {pos : Pos} {Q : Flow → Shared → Prop} (hh : A.handled = none)
    (h : wpAny M A (eval x env) (RaiseEnd w base E) E s) : wpAny M A (exec (.Raise (some x) none pos) env) Q E s := raise_exec hh h
theorem RaiseEnd.intro {w : World} {base : Heap} {E : Value → Shared → Prop} {e : Addr} {p : Int} {s₁ : Shared} (X : (Mine.hd0.heap_1 w.params).In s₁.heap) (x : Fresh base e p s₁.heap) (h : E (.ref e) s₁) : RaiseEnd w base E (.ref e) s₁ := ⟨e, p, rfl, X, x, h⟩


-- 04_bytes
section
open Builtin
theorem bytes_no_index : typeLookup (.type "bytes") "__index__" = pure none := by rw [typeLookup_type, builtinLookup_eq_fast]; kernel_rfl

theorem gives_in_int {b : Array UInt8} {t u : Tok} {c : Int} (h0 : 0 ≤ c) (h1 : c < 256) : Gives («bytes.__contains__» ⟨[.bytes b t, .int c u], []⟩) (.val (.bool (b.contains c.toNat.toUInt8))) := by
  refine .of_wp fun M A E s Q hq => ?_
  show wpAny M A (Bytes.containsIn "bytes.__contains__" (.bytes b t) (.int c u) >>= fun r => _) _ E s
  refine wpAny_bind ?_
  unfold Bytes.containsIn
  refine wpAny_bind (wpAny_attempt ?_)
  show wpAny M A (pure c) _ _ s
  refine wpAny_pure ?_
  refine wpAny_bind (wpAny_of_eq KBy.buffer_eq ?_)
  dsimp only
  have hn : ¬ ((decide (c < 0) || decide (c ≥ 256)) = true) := by simp; omega
  rw [if_neg hn]
  exact wpAny_pure (wpAny_pure ⟨_, rfl, hq⟩)

theorem special_index {b : Array UInt8} {t : Tok} : callSpecial? (.bytes b t) "__index__" = pure none := by
  unfold callSpecial?
  rw [KBy.special_eq bytes_no_index]
  rfl
theorem name_bytes {b : Array UInt8} {t : Tok} : typeNameOfCut 200 (.bytes b t) = pure "bytes" := by kernel_rfl
theorem asIndex_eq {b : Array UInt8} {t : Tok} : asIndex (.bytes b t) = raiseErrorMade "TypeError" (toString "'" ++ toString "bytes" ++ toString "' object cannot be interpreted as an integer") := by
  show (callSpecial? (.bytes b t) "__index__" >>= fun r => _) = _
  rw [special_index]
  show (typeNameOfCut 200 (.bytes b t) >>= fun r => _) = _
  rw [name_bytes]
  rfl
/-- a run of bytes within bytes -/
noncomputable def within (x b : Array UInt8) : Bool := (Bytes.find? b x 0 b.size).isSome
theorem meets_in_bytes {b x : Array UInt8} {t u : Tok} : Meets («bytes.__contains__» ⟨[.bytes b t, .bytes x u], []⟩)
    (fun A R s => A.handled = none ∧ ∀ h' tk, Keep s.heap h' → R (.ok (.ret (.bool (within x b)))) { s with heap := h', toks := tk }) := by
  refine .of_wp fun prog w A R s hS => ?_
  obtain ⟨hh, hr⟩ := hS
  show wpAny _ _ (Bytes.containsIn "bytes.__contains__" (.bytes b t) (.bytes x u) >>= fun r => _) _ _ s
  refine wpAny_bind ?_
  unfold Bytes.containsIn
  refine wpAny_bind (wpAny_attempt ?_)
  rw [asIndex_eq]
  refine wpAny_raiseErrorMade plainExc_TypeError hh (fun h' tk e hn => ?_)
  refine wpAny_bind (wpAny_of_eq KBy.buffer_eq ?_)
  refine wpAny_bind (wpAny_of_eq KBy.buffer_eq ?_)
  refine wpAny_bind (wpAny_rule (wpAny_pure ?_))
  exact wpAny_pure ⟨_, rfl, hr _ _ hn.keeps⟩

section
variable {prog : Program} {w : World} {A : Around} {E : Value → Shared → Prop} {s : Shared} {b x : Array UInt8} {t u : Tok} {Q : Value → Shared → Prop} {c : Int}
theorem in_int (h0 : 0 ≤ c) (h1 : c < 256) (h : Q (.bool (b.contains c.toNat.toUInt8)) s) : wpAny (model prog w) A (compareOp .In (.int c u) (.bytes b t)) Q E s :=
  in_gives (typeIs_bytes s b t) FB.slot_bytes_contains FB.entry_bytes_contains (FB.args_bytes_contains_2 _ _) (gives_in_int h0 h1) h
theorem in_bytes (hh : A.handled = none) (h : ∀ h' tk, Keep s.heap h' → Q (.bool (within x b)) { s with heap := h', toks := tk }) : wpAny (model prog w) A (compareOp .In (.bytes x u) (.bytes b t)) Q E s := by
  show wpAny _ _ (do return .bool (← contains (.bytes b t) (.bytes x u))) Q E s
  refine wpAny_bind (wpAny_contains_slot (typeIs_bytes s b t) FB.slot_bytes_contains ?_)
  refine call_meets FB.slot_bytes_contains (typeIs_bytes s b t) FB.entry_bytes_contains (FB.args_bytes_contains_2 _ _) meets_in_bytes ⟨hh, fun h' tk k => ?_⟩
  exact wpAny_pure (wpAny_pure (h h' tk k))
end

end


-- 05_ctx
theorem fuel {a j f : Nat} (h1 : a < j + f) (h2 : j ≤ a) : ∃ f', f = f' + 1 := ⟨f - 1, by omega⟩
theorem fuel2 {a j f : Nat} (h1 : a + 2 ≤ j + f) (h2 : j ≤ a) : ∃ f', f = f' + 1 := ⟨f - 1, by omega⟩
/-- room for n more frames -/
noncomputable def Room (A : Around) (n : Nat) : Prop := A.depth + n ≤ 500 ∧ A.units + 10 * n ≤ 1000 ∧ A.handled = none
theorem Room.deeper {A : Around} {n : Nat} {env : Env} (r : Room A (n + 1)) : Room (A.deeper env) n :=
  ⟨by have := r.1; show A.depth + 1 + n ≤ 500; omega, by have := r.2.1; show A.units + 3 + 10 * n ≤ 1000; omega, r.2.2⟩
theorem Room.less {A : Around} {n m : Nat} (r : Room A n) (h : m ≤ n) : Room A m := ⟨by have := r.1; omega, by have := r.2.1; omega, r.2.2⟩
theorem Room.under {A : Around} {n m : Nat} {env : Env} (r : Room A (n + 1)) (h : m ≤ n) : Room (A.deeper env) m := r.deeper.less h
theorem Room.hh {A : Around} {n : Nat} (r : Room A n) : A.handled = none := r.2.2
theorem Room.hh1 {A : Around} {n : Nat} {env : Env} (r : Room A n) : (A.deeper env).handled = none := r.2.2
theorem Room.ok {A : Around} {n : Nat} (r : Room A n) : A.depth < recursionLimit := by
  have := r.1; show A.depth < 1000; omega
theorem Room.d5 {A : Around} {n : Nat} (r : Room A n) : A.depth ≤ 500 := by have := r.1; omega
theorem Room.u10 {A : Around} {n : Nat} (r : Room A n) : A.units ≤ 1000 := by have := r.2.1; omega
theorem at_int {Q : Value → Shared → Prop} {i j : Int} {tk : Tok} {s : Shared} (h : Q (.int i tk) s) (e : i = j) : Q (.int j tk) s := e ▸ h
theorem at_bool {Q : Value → Shared → Prop} {i j : Bool} {s : Shared} (h : Q (.bool i) s) (e : i = j) : Q (.bool j) s := e ▸ h
noncomputable abbrev tupO (vs : List Value) : Obj := { cls := .type "tuple", data := .seq vs.toArray }

/-- no address of the ledger is d -/
noncomputable def AllNe (d : Addr) : List (Addr × Obj) → Prop
  | [] => True
  | p :: r => @Ne Nat p.1 d ∧ AllNe d r
theorem allNe_of {d : Addr} : ∀ {l : List (Addr × Obj)}, (∀ p ∈ l, p.1 ≠ d) → AllNe d l
  | [], _ => trivial
  | p :: _, h => ⟨h p (.head _), allNe_of fun q hq => h q (.tail _ hq)⟩
theorem News.ne {g h : Heap} {L a : Addr} {news : List (Addr × Obj)} (N : News g L h news) (hn : h.get? a = none) : AllNe a news :=
  allNe_of fun p hp e => by have := (N p hp).1; rw [e, hn] at this; cases this
theorem News.add {g h h' : Heap} {L a : Addr} {o : Obj} {m : Str → Option Value} {news : List (Addr × Obj)} (F : Fr g L h m) (N : News g L h news) (k : Keep h h') (hn : h.get? a = none) (ho : h'.get? a = some o) : News g L h' ((a, o) :: news) := by
  intro q hq
  rcases List.mem_cons.mp hq with rfl | hq
  · refine ⟨ho, fun e => ?_, ?_⟩
    · obtain ⟨oL, _, _, hL, _⟩ := F.ns
      dsimp only at e
      rw [← e, hn] at hL; cases hL
    · cases x : g.get? a with
      | none => rfl
      | some o' => rw [F.keep _ _ x] at hn; cases hn
  · exact ⟨k _ _ (N q hq).1, (N q hq).2⟩
/-- a new object of the walked body is new to the heap ahead of the call -/
theorem fresh0 {g h h' : Heap} {L a : Addr} {o : Obj} {M : List Addr} {news : List (Addr × Obj)} (kb : KeepBut M h g) (N : News g L h' news) (hm : (a, o) ∈ news) (ha : a ∉ M) : h.get? a = none := by
  cases x : h.get? a with
  | none => rfl
  | some o' => have := (N _ hm).2.2; rw [show g.get? a = some o' from kb a o' ha x] at this; cases this

/-- what stands of the text -/
structure Gr (w : World) (base : Heap) : Prop where
  X : (Mine.hd0.heap_1 w.params).In base
  Z : base.get? (nat_lit 0) = some (boot_o_0 w.params)
  T : ∃ p loose mean mg mb, Top p loose mean mg mb base

/-- what the walked body hands on -/
structure Inside (prog : Program) (w : World) (A' : Around) (base : Heap) (fr : List Env) (env : Env) (g : Heap) (L : Addr) (s : Shared) (gn : Array GenState) (dr : Drawn) (os : OsState)
    (Q E : Value → Shared → Prop) (Q' : Flow → Shared → Prop) (E' : Value → Shared → Prop) : Prop where
  below : ∀ {h m}, Fr g L h m → Below A' base (env :: fr) h
  ret : ∀ {v h' tk'}, Q v { s with heap := h', toks := tk' } → Q' (.ret v) ⟨h', gn, dr, tk', os⟩
  fall : ∀ {h' tk'}, Q .none { s with heap := h', toks := tk' } → Q' .next ⟨h', gn, dr, tk', os⟩
  first : ∀ {e p h tk m}, Fr g L h m → Fresh base e p h → (∀ h', Fly base fr e p .none h' → h.UpToSlots h' → E (.ref e) { s with heap := h', toks := tk }) → E' (.ref e) ⟨h, gn, dr, tk, os⟩
  next : ∀ {e p h tk}, Fly base (env :: fr) e p .none h → (∀ h', Fly base fr e p .none h' → h.UpToSlots h' → E (.ref e) { s with heap := h', toks := tk }) → E' (.ref e) ⟨h, gn, dr, tk, os⟩
  pass : PassesOwn (model prog w) A' env E'

/-- the entry into a def of the text: M are the objects that the call may turn -/
theorem enter2c {prog : Program} {w : World} {A : Around} {s : Shared} {base : Heap} {fr : List Env} {R : Result → Shared → Prop}
    {name qual : Str} {params : Arguments} {body : List Stmt} {scope : Scope} {dV kV doc pm cdv ct oc : Value} {an od : Option Addr} {osl : Array (Option Value)} {f : Addr} {pos : List Value} {kw : List (Str × Value)} {binds : List (Str × Value)} {n : Nat}
    (M : List (Addr × Obj)) (G : Gr w base) (B : Below A base fr s.heap) (hR : Room A (n + 1))
    (hM : ∀ q ∈ M, s.heap.get? q.1 = some q.2 ∧ base.get? q.1 = none) (hO : OffFrames fr (M.map (·.1)))
    (ho : (Mine.hd0.heap_1 w.params).lookup f = some ⟨oc, od, .func (fnOf name qual params body scope dV kV doc pm an cdv ct), osl⟩) (hcd : codeIn (Mine.hd0.heap_1 w.params) cdv qual = true)
    (hbind : BindsTo s (fnOf name qual params body scope dV kV doc pm an cdv ct) ⟨pos, kw⟩ binds) (hloc : ∀ y ∈ binds, scope.names.lookup y.1 = some .local)
    (h : ∀ g L' h₁ tk gn dr os ad af ag au, let A' : Around := ⟨none, ad, af, ag, au⟩; ∀ Q' E' p loose mean mg mb, KeepBut (M.map (·.1)) s.heap g → Fr g L' h₁ (fun y => binds.reverse.lookup y) → News g L' h₁ M →
      Inside prog w A' base fr (envOf qual scope L' f cdv) g L' s gn dr os (fun v s' => R (.ok (.ret v)) s') (fun e s' => R (.error e) s') Q' E' → Room A' n → (Mine.hd0.heap_1 w.params).In g → Top p loose mean mg mb g →
      wpAny (model prog w) A' (execs body (envOf qual scope L' f cdv)) Q' E' ⟨h₁, gn, dr, tk, os⟩)
    (hcell : ∀ x ∈ scope.names, x.2 ≠ .cell) (hco : scope.isCoroutine = false) (hgen : scope.isGenerator = false) (hk : scope.kind = .function) :
    codeAny (model prog w) A (.call (.ref f) ⟨pos, kw⟩) R s := by
  obtain ⟨p, loose, mean, mg, mb, T⟩ := G.T
  obtain ⟨ahd, ad, af, ag, au⟩ := A
  obtain rfl : ahd = none := hR.2.2
  refine enter M B G.X T hM hO ho hcd hR.ok hbind hloc (fun g L' h₁ tk kb kk F N Bg Xg Tg => ?_) hcell hco hgen hk
  refine h g L' h₁ tk s.gens s.drawn s.os _ _ _ _ _ _ p loose mean mg mb kb F N ⟨fun F' => Bg.push F' hk, fun q => q, fun q => q, fun F' x q => ?_, fun x q => ?_, PassesOwn.leaving⟩ hR.deeper Xg Tg
  · have B' := Bg.push (name := qual) (a := f) (cd := cdv) F' hk
    exact leave_first B'.stack B'.frames rfl B'.stays x fun h' x' u => q h' x' u
  · exact leave_next (Around.frames_deeper Bg.stack) rfl x fun h' x' u => q h' x' u
theorem enter2 {prog : Program} {w : World} {A : Around} {s : Shared} {base : Heap} {fr : List Env} {Q E : Value → Shared → Prop}
    {name qual : Str} {params : Arguments} {body : List Stmt} {scope : Scope} {dV kV doc pm cdv ct oc : Value} {an od : Option Addr} {osl : Array (Option Value)} {f : Addr} {pos : List Value} {kw : List (Str × Value)} {binds : List (Str × Value)} {n : Nat}
    (M : List (Addr × Obj)) (G : Gr w base) (B : Below A base fr s.heap) (hR : Room A (n + 1))
    (hM : ∀ q ∈ M, s.heap.get? q.1 = some q.2 ∧ base.get? q.1 = none) (hO : OffFrames fr (M.map (·.1)))
    (ho : (Mine.hd0.heap_1 w.params).lookup f = some ⟨oc, od, .func (fnOf name qual params body scope dV kV doc pm an cdv ct), osl⟩) (hcd : codeIn (Mine.hd0.heap_1 w.params) cdv qual = true)
    (hbind : BindsTo s (fnOf name qual params body scope dV kV doc pm an cdv ct) ⟨pos, kw⟩ binds) (hloc : ∀ y ∈ binds, scope.names.lookup y.1 = some .local)
    (h : ∀ g L' h₁ tk gn dr os ad af ag au, let A' : Around := ⟨none, ad, af, ag, au⟩; ∀ Q' E' p loose mean mg mb, KeepBut (M.map (·.1)) s.heap g → Fr g L' h₁ (fun y => binds.reverse.lookup y) → News g L' h₁ M →
      Inside prog w A' base fr (envOf qual scope L' f cdv) g L' s gn dr os Q E Q' E' → Room A' n → (Mine.hd0.heap_1 w.params).In g → Top p loose mean mg mb g →
      wpAny (model prog w) A' (execs body (envOf qual scope L' f cdv)) Q' E' ⟨h₁, gn, dr, tk, os⟩)
    (hcell : ∀ x ∈ scope.names, x.2 ≠ .cell) (hco : scope.isCoroutine = false) (hgen : scope.isGenerator = false) (hk : scope.kind = .function) :
    wpAny (model prog w) A (call (.ref f) pos kw) Q E s := by
  refine wpAny_call (enter2c M G B hR hM hO ho hcd hbind hloc ?_ hcell hco hgen hk)
  exact h

/-- up to the slots, but for M -/
noncomputable def UpBut (M : List Addr) (h h' : Heap) : Prop := ∀ b o, b ∉ M → h.get? b = some o → (∀ vs, o.data ≠ .fields vs) → ∃ sl, h'.get? b = some { o with slots := sl }
theorem UpBut.of {M : List Addr} {h h₁ h' : Heap} (k : KeepBut M h h₁) (u : h₁.UpToSlots h') : UpBut M h h' := fun b o n e hd => u b o (k b o n e) hd
theorem UpBut.then {M : List Addr} {h h₁ h' : Heap} (k : UpBut M h h₁) (u : h₁.UpToSlots h') : UpBut M h h' := fun b o n e hd => by
  obtain ⟨sl, e'⟩ := k b o n e hd
  obtain ⟨sl', e2⟩ := u b _ e' hd
  exact ⟨sl', e2⟩
theorem UpBut.after {M : List Addr} {h h₁ h' : Heap} (k : KeepBut M h h₁) (u : UpBut M h₁ h') : UpBut M h h' := fun b o n e hd => u b o n (k b o n e) hd
theorem UpBut.wk {M : List Addr} {h h' : Heap} (u : UpBut [] h h') : UpBut M h h' := fun b o _ e hd => u b o (by simp) e hd
theorem newest {g h h' : Heap} {L a : Addr} {o : Obj} {M : List Addr} {r : List (Addr × Obj)} (kb : KeepBut M h g) (N : News g L h' ((a, o) :: r)) (ha : a ∉ M := by simp) : h.get? a = none ∧ h'.get? a = some o :=
  ⟨fresh0 kb N (.head _) ha, (N _ (.head _)).1⟩
/-- a frame's names with one more written -/
@[reducible] def setM (m : Str → Option Value) (x : Str) (v : Value) : Str → Option Value := fun y => if y = x then some v else m y
theorem st_own {M : Model} {A : Around} {E : Value → Shared → Prop} {s : Shared} {name x : Str} {scope : Scope} {L a : Addr} {cd v : Value} {g : Heap} {m : Str → Option Value} {nx : List (Addr × Obj)} {Q : Unit → Shared → Prop} (F : Fr g L s.heap m) (N : News g L s.heap nx)
    (h : ∀ h' tk, Fr g L h' (setM m x v) → News g L h' nx → Q () { s with heap := h', toks := tk })
    (hk : scope.kind = .function := by rfl) (hl : (envOf name scope L a cd).kindOf x = some .local := by rfl) : wpAny M A (storeName (envOf name scope L a cd) x v) Q E s :=
  stN F N (fun h' F' N' => h h' _ F' N') hk hl
theorem setup_ctx : True := by
  k_with "m item" => ((with_reducible show wpAny _ _ (subscriptTail _ _ (Value.ref _) (Value.int _ _)) _ _ _); k_dflt (first
    | refine item_tupleL (by assumption) (by first | decide | omega) (by first | decide | omega) (by first | rfl | decide) (by first | rfl | simp) ?_
    | (refine kba_turn (value' := PySem.Expr.Name (PySem.Str.ofString "_") ⟨0, 0, 0, 0⟩) (fun _ => rfl) ?_; refine item_tupleL (by assumption) (by first | decide | omega) (by first | decide | omega) (by first | rfl | decide) (by first | rfl | simp) ?_)))
  k_with "m hold" => (refine Hold.mk ?_)
  k_with "m in int" => (refine in_int (by omega) (by omega) ?_)
  k_with "m getm bytes" => (with_reducible refine method_join ?_)
  k_with "m stop if" => ((with_reducible rename StopIf => stop); refine Hold.mk ?_)
  k_with "m stop bool" => ((with_reducible rename StopBool => stop); refine Hold.mk ?_)
  k_with "m stop ifexp" => ((with_reducible rename StopIfExp => stop); refine Hold.mk ?_)
  k_with "m stop comp" => ((with_reducible rename StopComp => stop); refine Hold.mk ?_)
  k_with "m stop try" => ((with_reducible rename StopTry => stop); refine Hold.mk ?_)
  k_with "m ne" => ((repeat (rename (_ ∧ _) => hc9; obtain ⟨_, _⟩ := hc9)); first | assumption | exact Ne.symm (by assumption) | exact Nat.ne_of_lt (by assumption) | exact Nat.ne_of_gt (by assumption))
  k_with "m om" => (first | assumption | exact Nat.le_of_ble_eq_true rfl | exact Nat.le_trans (by assumption) (Nat.le_of_ble_eq_true rfl) | omega)
  k_with "m enter" => (w_top off; k_dflt (refine' enter2 (binds := ?kbinds) ?kM ?kG ?k1 ?kR ?kN ?kO ?k6 ?k7 ?k9 ?kB ?_ ?c5 ?c2 ?c3 ?c4; (case k6 => k_is); (case k7 => k_is); (case k1 => k_asm); (case kG => k_asm); (case kR => exact hR); (case c5 => decide); (case c2 => exact rfl); (case c3 => exact rfl); (case c4 => exact rfl)))
  k_with "m enterc" => (w_top off; k_dflt (refine' enter2c (binds := ?kbinds) ?kM ?kG ?k1 ?kR ?kN ?kO ?k6 ?k7 ?k9 ?kB ?_ ?c5 ?c2 ?c3 ?c4; (case k6 => k_is); (case k7 => k_is); (case k1 => k_asm); (case kG => k_asm); (case kR => exact hR); (case c5 => decide); (case c2 => exact rfl); (case c3 => exact rfl); (case c4 => exact rfl)))
  k_with "m pure" => ((case kM => exact []); (case kN => exact (fun _ h => nomatch h)); (case kO => exact OffFrames.nil); k_extra "m in")
  k_with "m in" => ((case k9 => exact BindsTo.of_eq rfl); k_extra "m in2")
  k_with "m in2" => ((case kB => exact locs rfl); intro g L' h₁ tk₁ gn dr os ad af ag au A' Q' E' p loose mean mg mb kb F' N' IN hR' X' T'; clear hR; (try clear B); dsimp only [List.reverse, List.reverseAux] at F'; (try dsimp only))
  k_with "m out" => ((try dsimp only); refine Inside.ret IN ?_)
  k_with "m names" => ((with_reducible rename Fr _ _ _ _ => kF); (with_reducible rename News _ _ _ _ => kN))
  k_with "m after" => (dsimp only at kk'; have F' := Fr.keepAll kF kk'; have N' := News.keepAll kN kk'; clear kF kN; (try dsimp only))
  k_with "m raise" => (refine raise_end (w := w) (base := base) (Room.hh hR') ?_)
  k_with "m raised" => ((try dsimp only); refine RaiseEnd.intro (X'.keeps (Fr.keep (by assumption))) (by assumption) ?_; (try dsimp only); (with_reducible rename Fr _ _ _ _ => kF); refine Inside.first IN kF (by assumption) fun h₂ x₂ u₂ => ?_)
  k_with "m call" => ((with_reducible show wpAny _ _ (call (Value.ref 52) _ _) _ _ _); k_extra "m names"; refine c_fault G (Inside.below IN kF) (Room.d5 hR') ?_; intro e' h' tk' kk' x'; k_extra "m after")
  trivial
local macro_rules | `(tactic| walk_at $s:str) => do
  let n := s.getString
  if n.startsWith "exec While " || n.startsWith "exec For " then `(tactic| k_extra "m hold") else
  if (n.startsWith "subscriptTail Name " || n.startsWith "subscriptTail Subscript ") && n.endsWith "ref int" then `(tactic| k_extra "m item") else
  let t : List (String × String) := [("call builtin:list.append", "m append"), ("call ref", "m call"), ("exec Raise some none", "m raise"), ("compareOp In int bytes", "m in int"), ("compareOp In bytes bytes", "m in bytes"), ("storeName", "m store"), ("newList", "m newlist"), ("getMethod bytes", "m getm bytes"), ("call builtin:bytes.join", "m join"), ("exec If", "m stop if"), ("isTrue BoolOp", "m stop bool"), ("eval BoolOp", "m stop bool"), ("eval IfExp", "m stop ifexp"), ("eval ListComp", "m stop comp"), ("exec Assign cons ListComp", "m stop comp"), ("CompSrcT", "m stop comp"), ("CompSrc", "m stop comp"), ("CompEnd", "m stop comp"), ("pyIter ref", "m stop comp"), ("call builtin:len", "m len"), ("subscriptTail", "m item"), ("subscriptTail Attribute Name Attribute Name ref int", "m item"), ("binaryOp Add str str", "m stradd"), ("compareOp Eq ref ref", "m eqnil"), ("compareOp NotIn bytes ref", "m notin"), ("call builtin:list.insert", "m insert"), ("call builtin:list.pop", "m pop"), ("getAttr ref", "m getat"), ("exec Try", "m stop try")]
  match t.lookup n with
  | some r => `(tactic| k_extra $(Lean.Syntax.mkStrLit r))
  | none => Lean.Macro.throwUnsupported
local macro_rules | `(tactic| k_ne) => `(tactic| (refine neN ?_; (try dsimp only); k_extra "m ne"))
theorem setup_ctx4 : True := by
  k_with "m append" => ((with_reducible show wpAny _ _ (call (Value.builtin _) [Value.ref _, _]) _ _ _); k_extra "m names"; refine append_K kF kN (by k_upd) ?_ (by k_extra "m size"); intro h' F' N'; clear kF kN)
  k_with "m size" => (size_fits)
  trivial
theorem setup_ctx2 : True := by
  k_with "m in bytes" => (k_extra "m names"; refine in_bytes (Room.hh hR') ?_; intro h' tk' kk'; k_extra "m after")
  trivial
theorem setup_ctx3 : True := by
  k_with "m store" => ((try dsimp only); (with_reducible rename Fr _ _ _ _ => kF); (with_reducible rename News _ _ _ _ => kN); k_dflt (refine st_own kF kN ?_); intro h' tk' F' N'; clear kF kN; (try dsimp only at F'); (try dsimp only))
  trivial
theorem setup_ctx5 : True := by
  k_with "m newlist" => (k_extra "m names"; k_dflt (refine newList_K kF kN ?_); intro l' h' F' N' l1; (try k_lt l1); clear kF kN)
  trivial

-- 05z_fault
/-! ## WordFault(what, at), by hand -/
/-- a fault's own object, ahead of its dict -/
noncomputable abbrev excO (t : Addr) : Obj := { cls := .ref 52, data := .fields #[.ref t, .none, .none, .none, .bool false, .none] }
noncomputable abbrev excD (t dx : Addr) : Obj := { cls := .ref 52, dict := some dx, data := .fields #[.ref t, .none, .none, .none, .bool false, .none] }
theorem fault_cls2 {w : World} {h : Heap} (X : (Mine.hd0.heap_1 w.params).In h) : ∃ nm q N bs hdct sn sub ab col dd k0 k1 k2 k3 k5,
    h.get? 52 = some (excClassObj nm q 52 N bs [.ref 39, .type "Exception", .type "BaseException", .type "object"] hdct sn sub ab col dd k0 k1 k2 k3 k5 "Exception.__new__") :=
  ⟨_, _, _, _, _, _, _, _, _, _, _, _, _, _, _, X 52 _ (by k_is)⟩
theorem fault_cls2_on {w : World} {h : Heap} {P : Prop} (X : (Mine.hd0.heap_1 w.params).In h) (k : ∀ nm q N bs hdct sn sub ab col dd k0 k1 k2 k3 k5,
    h.get? 52 = some (excClassObj nm q 52 N bs [.ref 39, .type "Exception", .type "BaseException", .type "object"] hdct sn sub ab col dd k0 k1 k2 k3 k5 "Exception.__new__") → P) : P := by
  obtain ⟨nm, q, N, bs, hdct, sn, sub, ab, col, dd, k0, k1, k2, k3, k5, hC⟩ := fault_cls2 X
  exact k nm q N bs hdct sn sub ab col dd k0 k1 k2 k3 k5 hC
section
variable {prog : Program} {w : World} {A : Around} {base : Heap} {fr : List Env} {s : Shared} {Q : Value → Shared → Prop} {E : Value → Shared → Prop}
theorem fault_check {M : Model} {hh : Heap} {g : Array GenState} {d : Drawn} {t : Nat} {os : OsState} {nm q : Str} {N : Addr} {bs : List Value} {hdct : Bool} {sn : List Str} {sub : List Value} {ab : Bool} {col : Option Bool} {dd : Option Addr} {k0 k1 k2 k3 k5 : Option Value} {rest : List Value} {Q : Unit → Shared → Prop}
    (hC : hh.get? 52 = some (excClassObj nm q 52 N bs [.ref 39, .type "Exception", .type "BaseException", .type "object"] hdct sn sub ab col dd k0 k1 k2 k3 k5 "Exception.__new__")) (hq : Q () ⟨hh, g, d, t, os⟩) : wpAny M A (checkBuiltinCall "Exception.__new__" ⟨.ref 52 :: rest, []⟩) Q E ⟨hh, g, d, t, os⟩ := by
  have F := PySem.F.excBase_Exception
  have hcont : ([.ref 52, .ref 39, .type "Exception", .type "BaseException", .type "object"] : List Value).contains (.type "Exception") = true := by decide +kernel
  have hstar := F.noStar
  simp only [checkBuiltinCall, F.newKind, F.newSplit, F.newRow]
  repeat (first | with_reducible refine wpAny_loadPart_at hC ?_ | (with_reducible refine wpAny_isSubtype_exc hC ?_; rw [hcont]) | with_reducible refine wpAny_staticBase_exc hC ?_ | with_reducible refine wpAny_madeBy_exc hC ?_ | simp only [bne_self_eq_false, Bool.false_eq_true, if_false] | wp_step)
  exact hq
theorem fault_new {hh : Heap} {g : Array GenState} {d : Drawn} {t : Nat} {os : OsState} {nm q : Str} {N : Addr} {bs : List Value} {hdct : Bool} {sn : List Str} {sub : List Value} {ab : Bool} {col : Option Bool} {dd : Option Addr} {k0 k1 k2 k3 k5 : Option Value} {R : Result → Shared → Prop} {rest : List Value}
    (hC : hh.get? 52 = some (excClassObj nm q 52 N bs [.ref 39, .type "Exception", .type "BaseException", .type "object"] hdct sn sub ab col dd k0 k1 k2 k3 k5 "Exception.__new__")) (hrest : rest.length ≤ sizeLine)
    (hq : R (.ok (.ret (.ref (hh.objs.size + 1)))) ⟨(hh.push { cls := .type "tuple", data := .seq rest.toArray }).push (excO hh.objs.size), g, d, t, os⟩) :
    codeAny (model prog w) A (.builtin "Exception.__new__" ⟨.ref 52 :: rest, []⟩) R ⟨hh, g, d, t, os⟩ := by
  have F := PySem.F.excBase_Exception
  have hends := F.ends
  have hcB : ([.ref 52, .ref 39, .type "Exception", .type "BaseException", .type "object"] : List Value).contains (.type "Exception") = true := by decide +kernel
  have hcA : ([.ref 52, .ref 39, .type "Exception", .type "BaseException", .type "object"] : List Value).contains (.type "AttributeError") = false := by decide +kernel
  have hcN : ([.ref 52, .ref 39, .type "Exception", .type "BaseException", .type "object"] : List Value).contains (.type "NameError") = false := by decide +kernel
  refine codeAny_builtinAt F.entry ?_
  unfold Builtin.«BaseException.__new__»
  refine PySem.wpAt_bind ?_
  show PySem.wpAt _ _ _ (stack >>= _) _ _ _
  refine PySem.wpAt_bind (PySem.wpAt_stack fun p below => PySem.wpAt_of_wpAny ?_)
  wp_walk
  refine PySem.wpAt_of_wpAny ?_
  rw [F.owner]
  repeat (first | with_reducible refine wpAny_madeHere_exc F.canon hC ?_ | with_reducible refine wpAny_loadPart_at hC ?_ | (with_reducible refine wpAny_isSubtype_exc hC ?_; first | rw [hcB] | rw [hcA] | rw [hcN]) | wp_step)
  show R _ _
  rw [Heap.size_push]
  exact hq
/-- the class is called: the object and the tuple of its arguments are made, __init__ is to come -/
theorem make_fault {rest : List Value} (X : (Mine.hd0.heap_1 w.params).In s.heap) (hrest : rest.length ≤ sizeLine)
    (h : ∀ x t h', Keep s.heap h' → s.heap.get? x = none → h'.get? x = some (excO t) →
      codeAny (model prog w) (A.under (.builtin "type.__call__" ⟨.ref 52 :: rest, []⟩)) (.call (.ref 29) ⟨.ref x :: rest, []⟩) (fun r s' => match r with | .ok (.ret v) => v = .none ∧ Q (.ref x) s' | .ok _ => False | .error e => E e s') { s with heap := h' }) :
    wpAny (model prog w) A (call (.ref 52) rest) Q E s := by
  obtain ⟨hh, g, d, t, os⟩ := s
  refine fault_cls2_on X fun nm q N bs hdct sn sub ab col dd k0 k1 k2 k3 k5 hC => ?_
  dsimp only at hC
  have F := PySem.F.excBase_Exception
  have f1 := tc_lookup
  have f2 := tc_bind (.ref 52)
  have hT : (⟨hh, g, d, t, os⟩ : Shared).TypeIs (.ref 52) "type" := ⟨_, hC, rfl⟩
  refine wpAny_call (codeAny_of_tree ?_)
  show wpAny _ _ (callAny (.ref 52) _) _ _ _
  repeat (any_goals (first | assumption | with_reducible refine wpAny_loadPart_at hC ?_ | wp_step))
  refine ⟨rfl, ?_⟩
  refine codeAny_call_builtin_at (Code.quiet_builtin _ (by decide +kernel)) entry_typeCall (wpAny_check_type_call_sub hC ?_)
  repeat (first | with_reducible refine wpAny_loadPart_at hC ?_ | with_reducible refine wpAny_madeBy_exc hC ?_ | wp_step)
  refine codeAny_call_builtin_code (Code.quiet_builtin _ F.quiet) (fault_check (rest := rest) hC ?_)
  refine fault_new (rest := rest) hC hrest ?_
  show wpAny _ _ _ _ _ _
  have k : Keep hh ((hh.push { cls := .type "tuple", data := .seq rest.toArray }).push (excO hh.objs.size)) := fun b o e => Heap.get?_push_of_some _ (Heap.get?_push_of_some _ e)
  have hx : ((hh.push { cls := .type "tuple", data := .seq rest.toArray }).push (excO hh.objs.size)).get? (hh.objs.size + 1) = some (excO hh.objs.size) := by heap_get
  have X' := X.keeps k
  have t1 : Looks (model prog w) ((hh.push { cls := .type "tuple", data := .seq rest.toArray }).push (excO hh.objs.size)) (typeOf (.ref (hh.objs.size + 1))) (.ref 52) := (Looks.ld hx).andThen .now
  have s1 : Looks (model prog w) ((hh.push { cls := .type "tuple", data := .seq rest.toArray }).push (excO hh.objs.size)) (isSubtype (.ref 52) (.ref 52)) true := looks_mroIn X' (by k_is)
  have i1 : Looks (model prog w) ((hh.push { cls := .type "tuple", data := .seq rest.toArray }).push (excO hh.objs.size)) (typeLookup (.ref 52) "__init__") (some (.ref 29)) := looks_findIn X' (by k_is)
  have b1 : Looks (model prog w) ((hh.push { cls := .type "tuple", data := .seq rest.toArray }).push (excO hh.objs.size)) (bindSpecial (.ref 29) (.ref (hh.objs.size + 1))) (.ref 29, [.ref (hh.objs.size + 1)]) := bind_fn X' _ (by k_is)
  unfold isInstance callSpecial? specialOf
  repeat (first | with_reducible refine wpAny_call ?_ | lk)
  refine codeAny_mono (h _ _ _ k (Heap.get?_none_of_le (Nat.le_succ _)) hx) fun r s' z => ?_
  rcases r with e | (v | _ | _ | _) <;> first | exact z | exact z.elim | skip
  obtain ⟨rfl, z⟩ := z
  exact wpAny_pure (wpAny_pure z)
theorem enter_low {R : Result → Shared → Prop}
    {name qual : Str} {params : Arguments} {body : List Stmt} {scope : Scope} {dV kV doc pm cdv ct oc : Value} {an od : Option Addr} {osl : Array (Option Value)} {f : Addr} {pos : List Value} {kw : List (Str × Value)} {binds : List (Str × Value)}
    (M : List (Addr × Obj)) (G : Gr w base) (B : Below A base fr s.heap) (hd : A.depth < recursionLimit)
    (hM : ∀ q ∈ M, s.heap.get? q.1 = some q.2 ∧ base.get? q.1 = none) (hO : OffFrames fr (M.map (·.1)))
    (ho : (Mine.hd0.heap_1 w.params).lookup f = some ⟨oc, od, .func (fnOf name qual params body scope dV kV doc pm an cdv ct), osl⟩) (hcd : codeIn (Mine.hd0.heap_1 w.params) cdv qual = true)
    (hbind : BindsTo s (fnOf name qual params body scope dV kV doc pm an cdv ct) ⟨pos, kw⟩ binds) (hloc : ∀ y ∈ binds, scope.names.lookup y.1 = some .local)
    (h : ∀ g L' h₁ tk gn dr os hd ad af ag au Q' E' p loose mean mg mb, KeepBut (M.map (·.1)) s.heap g → Fr g L' h₁ (fun y => binds.reverse.lookup y) → News g L' h₁ M →
      (∀ {h' tk'}, R (.ok (.ret .none)) { s with heap := h', toks := tk' } → Q' .next ⟨h', gn, dr, tk', os⟩) → (Mine.hd0.heap_1 w.params).In g → Top p loose mean mg mb g →
      wpAny (model prog w) ⟨hd, ad, af, ag, au⟩ (execs body (envOf qual scope L' f cdv)) Q' E' ⟨h₁, gn, dr, tk, os⟩)
    (hcell : ∀ x ∈ scope.names, x.2 ≠ .cell) (hco : scope.isCoroutine = false) (hgen : scope.isGenerator = false) (hk : scope.kind = .function) :
    codeAny (model prog w) A (.call (.ref f) ⟨pos, kw⟩) R s := by
  obtain ⟨p, loose, mean, mg, mb, T⟩ := G.T
  obtain ⟨ahd, ad, af, ag, au⟩ := A
  exact enter M B G.X T hM hO ho hcd hd hbind hloc (fun g L' h₁ tk kb kk F N Bg Xg Tg => h g L' h₁ tk s.gens s.drawn s.os _ _ _ _ _ _ _ p loose mean mg mb kb F N (fun q => q) Xg Tg) hcell hco hgen hk
theorem exc_mro (x : Addr) : refuseLoop (.ref x) "__setattr__" [.ref 52, .ref 39, .type "Exception", .type "BaseException", .type "object"] = pure () := by
  rw [refuseLoop_ref, refuseLoop_ref]; exact PySem.F.store_Exception.passes _
open PySem.Builtin PySem.Builtin.ObjectAttr in
/-- object.__setattr__ at a fault, up to the dict -/
theorem exc_open {x : Addr} {ox : Obj} {od : Option Obj} {name : Str} {tk : Tok} {v : Value} {R : Result → Shared → Prop} (X : (Mine.hd0.heap_1 w.params).In s.heap) (I : InstAt s.heap x ox 52 od) (ht : takerIn (Mine.hd0.heap_1 w.params) 52 name = some none)
    (h : ∀ b, wpAny (model prog w) A.in1 (storeInOwnDict (.ref x) (.ref 52) (.str name tk) name v b)
      (fun fin s' => match fin with | .done f => R (.ok f) s' | .again c' => c'.quiet = true ∧ codeAny (model prog w) A c' R s') (fun e s' => R (.error e) s') s) :
    codeAny (model prog w) A (.call (.builtin "object.__setattr__") ⟨[.ref x, .str name tk, v], []⟩) R s := by
  have SF := PySem.F.store_object
  have sub : Looks (model prog w) s.heap (isInstance (.ref x) (.type "object")) true := I.type.andThen (looks_mroIn X (by k_is))
  refine codeAny_call_builtin SF.slot.plain SF.entry (@check_slot (model prog w) _ _ s "object.__setattr__" "object" "__setattr__" (.ref x) [.str name tk, v] [] _ SF.kind SF.split sub (SF.args (.ref x) (.str name tk) v) ?_)
  obtain ⟨attr, ha, hr⟩ := Option.bind_eq_some_iff.mp ht
  have hm : Looks (model prog w) s.heap (mroOf (.ref 52)) [.ref 52, .ref 39, .type "Exception", .type "BaseException", .type "object"] := (Looks.ld (part := none) (X 52 _ (by k_is))).andThen .now
  have L3 : Looks (model prog w) s.heap (storeTaker? attr) none := by
    cases attr with
    | none => exact .now
    | some a =>
      obtain ⟨b, hb, e⟩ := Option.map_eq_some_iff.mp hr
      cases b with
      | true => cases e
      | false => exact (looks_takesIn X hb).andThen .now
  rw [osa_eq, refuse_eq]
  refine wpAny_bind (wpAny_bind (I.type.here (wpAny_bind (hm.here ?_))))
  rw [exc_mro]
  refine wpAny_pure (wpAny_bind (I.type.here (wpAny_bind ((looks_findIn X ha).here (wpAny_bind (L3.here ?_))))))
  exact h _
theorem ns_put {hh : Heap} {g : Array GenState} {d : Drawn} {tt : Nat} {os : OsState} {dx : Addr} {name : Str} {v : Value} {es : List DictEntry} {n : Nat} {Q : Unit → Shared → Prop} (D : hh.get? dx = some (dictOf es n)) (hl : (getL name es).isSome = true)
    (hq : Q () ⟨hh.update dx (Obj.putName name (PyData.keyHash w.params name) (.str name tt) v), g, d, tt + 1, os⟩) : wpAny (model prog w) A (nsSet dx name v) Q E ⟨hh, g, d, tt, os⟩ := by
  unfold nsSet
  refine wpAny_bind (wpAny_bind (wpAny_askSetting (wpAny_pure (wpAny_bind (wpAny_mkText (wpAny_bind (wpAny_loadPart D ?_)))))))
  have c : (!es.toArray.any (·.key.isStr name) && es.toArray.any (·.refKey)) = false := by
    rw [← Array.any_toList, ← Array.any_toList]
    unfold getL at hl
    split at hl
    · rename_i en he
      rw [show es.toArray.toList.any (·.key.isStr name) = true from List.any_eq_true.mpr ⟨en, List.mem_of_find?_eq_some he, List.find?_some (p := fun x : DictEntry => x.key.isStr name) he⟩]; rfl
    · split at hl
      · cases hl
      · rename_i z; rw [Bool.not_eq_true] at z; rw [show es.toArray.toList.any (·.refKey) = false from z, Bool.and_false]
  dsimp only
  rw [aRefKeyMayBeTheName_at, c]
  exact wpAny_updatePart D hq
theorem exc_first {x t L : Addr} {g : Heap} {m : Str → Option Value} {name : Str} {v : Value} {Q : Unit → Shared → Prop} (X : (Mine.hd0.heap_1 w.params).In g) (F : Fr g L s.heap m) (N : News g L s.heap [(x, excO t)]) (ht : takerIn (Mine.hd0.heap_1 w.params) 52 name = some none)
    (h : ∀ dx h', Fr g L h' m → News g L h' [(dx, dictOf [⟨PyData.keyHash w.params name, .str name (s.toks + 1), v⟩] 1), (x, excD t dx)] → Q () { s with heap := h', toks := s.toks + 2 }) :
    wpAny (model prog w) A (setAttr (.ref x) name v) Q E s := by
  have hx := (N _ (.head _)).1
  have X1 := X.keeps F.keep
  refine set_plain X1 (od := none) ⟨hx, rfl, rfl, trivial⟩ (by k_is) (exc_open (od := none) (s := { s with toks := s.toks + 1 }) X1 ⟨hx, rfl, rfl, trivial⟩ ht fun b => ?_)
  obtain ⟨hh, gs, d, tt, os⟩ := s
  dsimp only at hx F N X1 h
  refine wpAny_bind (wpAny_pure (wpAny_bind (wpAny_bind (wpAny_loadPart hx (wpAny_bind ((looks_clsIn X1 (by k_is)).here ?_))))))
  rw [if_neg (by decide)]
  show wpAny _ _ (if (!true || !typeHasDict (.ref 52)) = true then _ else _) _ _ _
  rw [if_neg (by simp [typeHasDict])]
  refine wpAny_bind (wpAny_alloc' (wpAny_bind (wpAny_update' (Heap.get?_push_of_some _ hx) ?_)))
  have P1 := F.push emptyDict
  have P2 := N.push F emptyDict
  have hne : x ≠ hh.objs.size := Nat.ne_of_lt (Heap.lt_size hx)
  obtain ⟨U1, U2⟩ := news_upd (pre := [(hh.objs.size, emptyDict)]) (o' := excD t hh.objs.size) (f := fun o => { cls := o.cls, dict := some hh.objs.size, data := o.data, slots := o.slots }) P1 P2 (fun p hp => by rw [List.mem_singleton.mp hp]; exact Ne.symm hne) (fun _ h => nomatch h) rfl rfl
  obtain ⟨V1, V2⟩ := news_upd (pre := []) (o := dictOf [] 0) (f := Obj.putName name (PyData.keyHash w.params name) (.str name (tt + 1)) v) U1 U2 (fun _ h => nomatch h) (fun p hp => by rw [List.mem_singleton.mp hp]; exact hne) (putName_dict _ _ _ _ _ _) rfl
  refine wpAny_pure (a := some hh.objs.size) (wpAny_bind (wpAny_pure (wpAny_bind (ns_put (es := []) (n := 0) (U2 _ (.head _)).1 rfl ?_))))
  refine wpAny_bind (wpAny_lookBehind (V2 _ (.head _)).1 (pastItsLine_dict (Nat.le_of_ble_eq_true rfl)) ?_)
  exact wpAny_pure (h _ _ V1 V2)
theorem exc_next {x t dx L : Addr} {g : Heap} {m : Str → Option Value} {name : Str} {v : Value} {Q : Unit → Shared → Prop} {es : List DictEntry} {n : Nat} (X : (Mine.hd0.heap_1 w.params).In g) (F : Fr g L s.heap m) (N : News g L s.heap [(dx, dictOf es n), (x, excD t dx)]) (ht : takerIn (Mine.hd0.heap_1 w.params) 52 name = some none)
    (hl : (getL name es).isSome = true) (hz : (putL name (PyData.keyHash w.params name) (.str name (s.toks + 1)) v es).length ≤ 1000)
    (h : ∀ h', Fr g L h' m → News g L h' [(dx, dictOf (putL name (PyData.keyHash w.params name) (.str name (s.toks + 1)) v es) (putN name es n)), (x, excD t dx)] → Q () { s with heap := h', toks := s.toks + 2 }) :
    wpAny (model prog w) A (setAttr (.ref x) name v) Q E s := by
  have hx := (N _ (.tail _ (.head _))).1
  have hd := (N _ (.head _)).1
  have X1 := X.keeps F.keep
  refine set_plain X1 (od := some (dictOf es n)) ⟨hx, rfl, rfl, hd⟩ (by k_is) (exc_open (od := some (dictOf es n)) (s := { s with toks := s.toks + 1 }) X1 ⟨hx, rfl, rfl, hd⟩ ht fun b => ?_)
  obtain ⟨hh, gs, d, tt, os⟩ := s
  dsimp only at hx F N X1 hd hz h
  refine wpAny_bind (wpAny_pure (wpAny_bind (wpAny_bind (wpAny_loadPart hx (wpAny_bind ((looks_clsIn X1 (by k_is)).here ?_))))))
  obtain ⟨U1, U2⟩ := news_upd (pre := []) (f := Obj.putName name (PyData.keyHash w.params name) (.str name (tt + 1)) v) F N (fun _ h => nomatch h) (fun p hp => by rw [List.mem_singleton.mp hp]; exact fun e => by have e' : x = dx := e; rw [e', hd] at hx; cases hx) (putName_dict _ _ _ _ _ _) rfl
  refine wpAny_pure (a := some dx) (wpAny_bind (wpAny_pure (wpAny_bind (ns_put hd hl ?_))))
  refine wpAny_bind (wpAny_lookBehind (U2 _ (.head _)).1 (pastItsLine_dict (by rw [List.size_toArray, sizeLine_eq]; omega)) ?_)
  exact wpAny_pure (h _ U1 U2)
theorem fault_initcheck {M : Model} {hh : Heap} {g : Array GenState} {d : Drawn} {t : Nat} {os : OsState} {nm q : Str} {N x t' : Addr} {bs : List Value} {hdct : Bool} {sn : List Str} {sub : List Value} {ab : Bool} {col : Option Bool} {dd : Option Addr} {k0 k1 k2 k3 k5 : Option Value} {rest : List Value} {Q : Unit → Shared → Prop}
    (hC : hh.get? 52 = some (excClassObj nm q 52 N bs [.ref 39, .type "Exception", .type "BaseException", .type "object"] hdct sn sub ab col dd k0 k1 k2 k3 k5 "Exception.__new__")) (he : hh.get? x = some (excO t')) (hq : Q () ⟨hh, g, d, t, os⟩) : wpAny M A (checkBuiltinCall "Exception.__init__" ⟨.ref x :: rest, []⟩) Q E ⟨hh, g, d, t, os⟩ := by
  have F := PySem.F.excBase_Exception
  have hcB : ([.ref 52, .ref 39, .type "Exception", .type "BaseException", .type "object"] : List Value).contains (.type "Exception") = true := by decide +kernel
  have hshort := F.noStar
  simp only [checkBuiltinCall, F.initKind, F.initSplit, F.initRow]
  repeat (first | with_reducible refine wpAny_loadPart_at he ?_ | with_reducible refine wpAny_loadPart_at hC ?_ | (with_reducible refine wpAny_isSubtype_exc hC ?_; rw [hcB]) | wp_step)
  refine wpAny_onRaise ?_
  rw [show ∀ (a b : String) (n : Nat), Bind.check ⟨.positional, "*", "Exception", .self, [⟨"args", .varPos, false⟩]⟩ a b n (List.map (fun x => x.fst) ({ pos := Value.ref x :: rest } : Args).kw) = pure () from
    fun a b n => check_star_args _ _ _ _ _ _]
  exact wpAny_pure hq
theorem exc_init {x t L : Addr} {g : Heap} {m : Str → Option Value} {v : Value} {Q : Value → Shared → Prop} (X : (Mine.hd0.heap_1 w.params).In g) (F : Fr g L s.heap m) (N : News g L s.heap [(x, excO t)])
    (h : ∀ t' h', Fr g L h' m → News g L h' [(x, excO t')] → Q .none { s with heap := h' }) :
    wpAny (model prog w) A (call (.builtin "Exception.__init__") [.ref x, v]) Q E s := by
  obtain ⟨hh, gs, d, tt, os⟩ := s
  dsimp only at F N h
  have hx := (N _ (.head _)).1
  dsimp only at hx
  have X1 := X.keeps F.keep
  have B := PySem.F.excBase_Exception
  refine fault_cls2_on X1 fun nm q N0 bs hdct sn sub ab col dd k0 k1 k2 k3 k5 hC => ?_
  refine wpAny_call (codeAny_call_builtin B.init.plain B.initEntry (fault_initcheck hC hx ?_))
  wp_walk
  obtain ⟨U1, U2⟩ := news_upd (pre := []) (o' := excO hh.objs.size) (f := Obj.mapFields fun x => x.setIfInBounds 0 (Value.ref hh.objs.size)) (F.push { cls := .type "tuple", data := .seq #[v] }) (fun p hp => ⟨Heap.get?_push_of_some _ (N p hp).1, (N p hp).2⟩) (fun _ h => nomatch h) (fun _ h => nomatch h) rfl rfl
  exact h _ _ U1 U2
local macro_rules | `(tactic| walk_at "getMethod type:Exception") => `(tactic| (refine' method_type ?F ?X ?m (by decide +kernel) ?e ?h ?_; (case F => assumption); (case X => assumption); (case m => kernel_rfl); (case e => k_dflt k_is); (case h => k_handed)))
local macro_rules | `(tactic| walk_at "call builtin:Exception.__init__") => `(tactic| (refine exc_init (by assumption) (by assumption) (by assumption) ?_; intro t' h' F' N'))
local macro_rules | `(tactic| walk_at "setAttr ref") => `(tactic| first | (refine exc_first (by assumption) (by assumption) (by assumption) (by k_is) ?_; intro dx' h' F' N') | (refine exc_next (by assumption) (by assumption) (by assumption) (by k_is) (by k_get) (by exact Nat.le_of_ble_eq_true rfl) ?_; intro h' F' N'))
theorem c_init {x t : Addr} {u1 u2 : Tok} {k : Int} {v : Str} {R : Result → Shared → Prop} (G : Gr w base) (B : Below A base fr s.heap) (hd : A.depth < recursionLimit) (hx : s.heap.get? x = some (excO t)) (hb : base.get? x = none) (hO : OffFrames fr [x])
    (h : ∀ h' tk dx t' h1 h2 t1 t2, KeepBut [x] s.heap h' → h'.get? x = some (excD t' dx) → h'.get? dx = some (dictOf [⟨h1, .str "what" t1, .str v u1⟩, ⟨h2, .str "at" t2, .int k u2⟩] 2) → R (.ok (.ret .none)) { s with heap := h', toks := tk }) :
    codeAny (model prog w) A (.call (.ref 29) ⟨[.ref x, .str v u1, .int k u2], []⟩) R s := by
  w_top off
  refine' enter_low (binds := [("self", .ref x), ("what", .str v u1), ("at", .int k u2)]) [(x, excO t)] G B hd (fun q hq => by rw [List.mem_singleton.mp hq]; exact ⟨hx, hb⟩) hO ?k6 ?k7 ?k9 ?kB ?_ ?c5 ?c2 ?c3 ?c4
  case k6 => k_is
  case k7 => k_is
  case k9 => exact binds_K (K := Mine.hd0.heap_1 w.params) (G.X.keeps B.stays) rfl (by k_is) rfl rfl rfl
  case kB => exact locs rfl
  case c5 => decide
  case c2 => exact rfl
  case c3 => exact rfl
  case c4 => exact rfl
  intro g L' h₁ tk₁ gn dr os hd1 ad af ag au Q' E' p loose mean mg mb kb F' N' IN X' T'
  dsimp only [List.reverse, List.reverseAux] at F'
  (try dsimp only)
  k_steps
  (try dsimp only)
  refine IN ?_
  rename News _ _ _ _ => N9
  rename Fr _ _ _ _ => F9
  exact h _ _ _ _ _ _ _ _ (kept kb F9) (N9 _ (.tail _ (.head _))).1 (N9 _ (.head _)).1
end
theorem base_none {A : Around} {base h : Heap} {fr : List Env} {a : Addr} (B : Below A base fr h) (hn : h.get? a = none) : base.get? a = none := by
  cases q : base.get? a with
  | none => rfl
  | some o => rw [B.stays _ _ q] at hn; cases hn
theorem off_fresh {A : Around} {base h : Heap} {fr : List Env} {M : List Addr} (B : Below A base fr h) (hn : ∀ a ∈ M, h.get? a = none) : OffFrames fr M := fun a ha env he e => by
  have hm : a ∈ fr.filterMap (·.frame) := List.mem_filterMap.mpr ⟨env, he, e⟩
  obtain ⟨_, o, ho, _⟩ := B.frames.mem hm
  rw [hn a ha] at ho; cases ho
theorem below_under {A : Around} {base h : Heap} {fr : List Env} {args : Args} (B : Below A base fr h) : Below (A.under (.builtin "type.__call__" args)) base fr h := ⟨B.stack, B.stays, B.frames⟩
/-- WordFault(what, at) -/
theorem c_fault {prog : Program} {w : World} {A : Around} {base : Heap} {fr : List Env} {s : Shared} {Q : Value → Shared → Prop} {E : Value → Shared → Prop} {u1 u2 : Tok} {k : Int} {v : Str}
    (G : Gr w base) (B : Below A base fr s.heap) (hd : A.depth ≤ 500)
    (hret : ∀ e h' tk', Keep s.heap h' → Fresh base e k h' → Q (.ref e) { s with heap := h', toks := tk' }) :
    wpAny (model prog w) A (call (.ref 52) [.str v u1, .int k u2]) Q E s := by
  refine make_fault (G.X.keeps B.stays) (Nat.le_of_ble_eq_true rfl) fun x t h' kp hn hx => ?_
  have b0 := base_none B hn
  refine c_init G (below_under (Below.keepAll B kp)) (by rw [depth_under_make]; show A.depth + 1 < 1000; omega) hx b0 (off_fresh B fun a ha => by rw [List.mem_singleton.mp ha]; exact hn) ?_
  intro h2 tk dx t' h1' h2' t1 t2 kb hx' hd'
  have kp2 : Keep s.heap h2 := fun b o e => kb b o (fun m => by rw [List.mem_singleton.mp m, hn] at e; cases e) (kp b o e)
  exact ⟨rfl, hret x h2 tk kp2 ⟨b0, dx, _, _, hx', rfl, _, _, _, _, _, _, _, _, hd'⟩⟩


-- 06_small
/-- data[i:j] -/
noncomputable abbrev cut (d : Array UInt8) (i j : Nat) : Array UInt8 := KBy.picked d (some (i : Int)) (some (j : Int))
noncomputable def lineEnd (d : Array UInt8) (k : Nat) : Int :=
  if ((KBy.picked d (some (k : Int)) (some ((k : Int) + 1))).toList == #[10].toList) then k + 1 else if ((KBy.picked d (some (k : Int)) (some ((k : Int) + 2))).toList == #[13, 10].toList) then k + 2 else -1

section
variable {prog : Program} {w : World}
  {A : Around} {base : Heap} {fr : List Env} {s : Shared} {Q : Value → Shared → Prop} {E : Value → Shared → Prop}

theorem c_line_end {d : Array UInt8} {t u : Tok} {k : Nat} (G : Gr w base) (B : Below A base fr s.heap) (hR : Room A 1) (hz : d.size ≤ 1000) (hkz : k ≤ 1000)
  (hret : ∀ tk h' tk', Keep s.heap h' → Q (.int (lineEnd d k) tk) { s with heap := h', toks := tk' }) :
  wpAny (model prog w) A (call (.ref 69) [.bytes d t, .int k u]) Q E s := by
  k_extra "m enter"
  case kbinds => exact [("data", .bytes d t), ("at", .int k u)]
  k_extra "m pure"
  generalize hks : KBw.bInts d = ks
  have hkl : ks.length ≤ 1000 := by rw [← hks, KBw.ints_length]; exact hz
  k_steps
  all_goals k_extra "m out"
  all_goals refine at_int (hret _ _ _ (kept0 kb (by assumption))) ?_
  all_goals unfold lineEnd
  all_goals simp only [*, if_true, if_false, Bool.false_eq_true]

noncomputable def isAtom (c : Int) : Bool := decide (48 ≤ c ∧ c ≤ 57) || (decide (65 ≤ c ∧ c ≤ 90) || (decide (97 ≤ c ∧ c ≤ 122) || (decide (127 < c) || #[33, 35, 36, 37, 38, 39, 42, 43, 45, 47, 61, 63, 94, 95, 96, 123, 124, 125, 126].contains c.toNat.toUInt8)))
theorem c_is_atom {u : Tok} {c : Int} (G : Gr w base) (B : Below A base fr s.heap) (hR : Room A 1) (h0 : 0 ≤ c) (h1 : c < 256)
  (hret : ∀ h' tk', Keep s.heap h' → Q (.bool (isAtom c)) { s with heap := h', toks := tk' }) :
  wpAny (model prog w) A (call (.ref 62) [.int c u]) Q E s := by
  k_extra "m enter"
  case kbinds => exact [("code", .int c u)]
  k_extra "m pure"
  k_steps
  all_goals k_extra "m out"
  all_goals refine at_bool (hret _ _ (kept0 kb (by assumption))) ?_
  all_goals unfold isAtom
  all_goals generalize @Array.contains UInt8 _ _ _ = z
  all_goals clear hret
  all_goals (apply Bool.eq_iff_iff.mpr; simp only [Bool.or_eq_true, decide_eq_true_eq]; cases z <;> simp only [Bool.false_eq_true, or_false, or_true, iff_true, true_iff, iff_false] <;> omega)
end
theorem setup_small : True := by
  k_with "m call" => ((with_reducible show wpAny _ _ (call (Value.ref 69) _ _) _ _ _); k_extra "m names"; refine c_line_end G (Inside.below IN kF) (Room.less hR' (by k_extra "m om")) (by k_extra "m om") (by k_extra "m om") ?_; intro tk' h' tk2' kk'; k_extra "m after")
  k_with "m call" => ((with_reducible show wpAny _ _ (call (Value.ref 62) _ _) _ _ _); k_extra "m names"; refine c_is_atom G (Inside.below IN kF) (Room.less hR' (by k_extra "m om")) (by k_extra "m om") (by k_extra "m om") ?_; intro h' tk2' kk'; k_extra "m after")
  trivial

-- 07_inside
theorem picked_len (d : Array UInt8) (i j : Nat) : (KBy.picked d (some (i : Int)) (some (j : Int))).toList.length = min j d.size - min i d.size := by
  rw [KBc.picked_eq]
  simp only [Option.elim, clipAt_nat, List.length_take, List.length_drop, Array.length_toList]
  omega
theorem lineEnd_bound {d : Array UInt8} {k : Nat} (h : 0 ≤ lineEnd d k) : (k : Int) < lineEnd d k ∧ lineEnd d k ≤ d.size := by
  unfold lineEnd at h ⊢
  split at h
  · rename_i q
    rw [if_pos q]
    have := congrArg List.length (beq_iff_eq.mp q)
    rw [show ((k : Int) + 1) = ((k + 1 : Nat) : Int) from rfl, picked_len] at this
    simp at this
    omega
  · rename_i q
    rw [if_neg q]
    split at h
    · rename_i q'
      rw [if_pos q']
      have := congrArg List.length (beq_iff_eq.mp q')
      rw [show ((k : Int) + 2) = ((k + 2 : Nat) : Int) from rfl, picked_len] at this
      simp at this
      omega
    · omega
theorem picked_len' (d : Array UInt8) (i j : Nat) : (KBy.picked d (some (i : Int)) (some (j : Int))).toList.length = min j d.size - min i d.size := picked_len d i j
theorem never_at {w : World} {h : Heap} (X : (Mine.hd0.heap_1 w.params).In h) : IsTup h 55 #[.int 0 253, .int 10 254, .int 13 255] := tupK (l := [.int 0 253, .int 10 254, .int 13 255]) X (by k_is)
noncomputable def barred3 (c : Int) : Bool := [0, 10, 13].any fun x => x == c
noncomputable def insideAt (d : Array UInt8) (k b : Nat) : Except Int (Array UInt8 × Int) :=
  if ((KBw.bInts d).length : Int) ≤ (k : Int) then .error b
  else if (KBw.bInts d).getD (k : Int).toNat 0 = 92 then
    if (k : Int) + 1 = (KBw.bInts d).length then .error b
    else if ([0, 10, 13].any fun x => x == (KBw.bInts d).getD ((k : Int) + 1).toNat 0) = true then .error k
    else .ok (KBy.picked d (some ((k : Int) + 1)) (some ((k : Int) + 2)), (k : Int) + 2)
  else if 0 ≤ lineEnd d k then .ok (#[], lineEnd d k)
  else if ([0, 10, 13].any fun x => x == (KBw.bInts d).getD (k : Int).toNat 0) = true then .error k
  else .ok (KBy.picked d (some (k : Int)) (some ((k : Int) + 1)), (k : Int) + 1)
theorem inside_nat {d : Array UInt8} {k b : Nat} {o : Array UInt8} {j : Int} (h : insideAt d k b = .ok (o, j)) : ∃ j' : Nat, j = j' ∧ k < j' ∧ k < (KBw.bInts d).length ∧ j' ≤ (KBw.bInts d).length ∧ o.size ≤ j' - k := by
  unfold insideAt at h
  have sz : ∀ (i j : Nat), i ≤ j → j ≤ i + 1 → (KBy.picked d (some (i : Int)) (some (j : Int))).size ≤ 1 := fun i j _ _ => by
    rw [← Array.length_toList, picked_len']; omega
  split at h
  · cases h
  · split at h
    · split at h
      · cases h
      · split at h
        · cases h
        · cases h
          exact ⟨k + 2, rfl, by omega, by omega, by omega, Nat.le_trans (sz (k + 1) (k + 2) (by omega) (by omega)) (by omega)⟩
    · split at h
      · rename_i q
        cases h
        have := lineEnd_bound q
        rw [KBw.ints_length] at *
        exact ⟨(lineEnd d k).toNat, by omega, by omega, by omega, by omega, by simp⟩
      · split at h
        · cases h
        · cases h
          exact ⟨k + 1, rfl, by omega, by omega, by omega, Nat.le_trans (sz k (k + 1) (by omega) (by omega)) (by omega)⟩
section
variable {prog : Program} {w : World}
  {A : Around} {base : Heap} {fr : List Env} {s : Shared} {Q : Value → Shared → Prop} {E : Value → Shared → Prop}
theorem c_inside_at {d : Array UInt8} {t u u2 : Tok} {k b : Nat} (G : Gr w base) (B : Below A base fr s.heap) (hR : Room A 4) (hz : d.size ≤ 1000) (hkz : k ≤ 1000)
  (hret : ∀ o j, insideAt d k b = .ok (o, j) → ∀ a t1 t2 h' tk', Keep s.heap h' → s.heap.get? a = none → h'.get? a = some (tupO [.bytes o t1, .int j t2]) → Q (.ref a) { s with heap := h', toks := tk' })
  (hE : ∀ q, insideAt d k b = .error q → ∀ e h' tk', Fly base fr e q .none h' → UpBut [] s.heap h' → E (.ref e) { s with heap := h', toks := tk' }) :
  wpAny (model prog w) A (call (.ref 76) [.bytes d t, .int k u, .int b u2]) Q E s := by
  k_extra "m enter"
  case kbinds => exact [("data", .bytes d t), ("at", .int k u), ("begun", .int b u2)]
  k_extra "m pure"
  generalize hks : KBw.bInts d = ks
  have hkl : ks.length ≤ 1000 := by rw [← hks, KBw.ints_length]; exact hz
  have h55 := never_at X'
  k_steps
  all_goals first
    | (k_extra "m raised"; refine hE _ ?_ _ _ _ x₂ (UpBut.of (kept kb (by assumption)) u₂))
    | (k_extra "m out"; rename News _ _ _ _ => N9; refine hret _ _ ?_ _ _ _ _ _ (kept0 kb (by assumption)) (newest kb N9).1 (newest kb N9).2)
  all_goals unfold insideAt
  all_goals first | (simp only [*, if_true, if_false, Bool.false_eq_true]; done) | (exfalso; omega)
end
theorem setup_inside : True := by
  k_with "m he" => ((try dsimp only at u'); (try dsimp only); refine Inside.next IN x' fun h₂ x₂ u₂ => ?_; (first | have U' := UpBut.then (UpBut.after (kept kb kF) u') u₂ | have U' := UpBut.then (UpBut.after (kept kb kF) (UpBut.wk u')) u₂); clear u' u₂ x')
  k_with "m call" => ((with_reducible show wpAny _ _ (call (Value.ref 76) _ _) _ _ _); k_extra "m names"; refine c_inside_at G (Inside.below IN kF) (Room.less hR' (by k_extra "m om")) (by k_extra "m om") (by k_extra "m om") ?_ ?_; rotate_left 1; (intro q hq e' h' tk' x' u'; k_extra "m he"); rotate_right 1; (intro o j hsp a t1 t2 h' tk' kk' hn ho; dsimp only at kk' hn; (obtain ⟨j', rfl, hj⟩ := inside_nat hsp; have N' := News.add kF kN kk' hn ho; have F' := Fr.keepAll kF kk'; have ne' := News.ne kN hn; simp only [AllNe, and_true] at ne'; clear kF kN hn ho kk'; (try dsimp only))))
  trivial

-- 08_loop
/-- the names that a map knows -/
noncomputable def Knows (m : Str → Option Value) : List (Str × Value) → Prop
  | [] => True
  | p :: r => m p.1 = some p.2 ∧ Knows m r
/-- a written list of names over a map -/
noncomputable def over (l : List (Str × Value)) (u : Str → Option Value) (y : Str) : Option Value := match l.lookup y with
  | some v => some v
  | none => u y
theorem over_eq {m : Str → Option Value} : ∀ {l : List (Str × Value)}, Knows m l → over l m = m
  | [], _ => rfl
  | (x, v) :: r, h => by
    funext y
    have ih := congrFun (over_eq h.2) y
    unfold over at ih ⊢
    rw [List.lookup_cons]
    cases hy : y == x with
    | true => simp only; rw [beq_iff_eq.mp hy]; exact h.1.symm
    | false => simp only; exact ih
theorem Fr.over {g h : Heap} {L : Addr} {m : Str → Option Value} {l : List (Str × Value)} (F : Fr g L h m) (k : Knows m l) : Fr g L h (Mine.over l m) := by rw [over_eq k]; exact F

/-- the end of a turn -/
noncomputable def WEnd {σ : Type} (g : Heap) (L : Addr) (s : Shared) (led : σ → List (Addr × Obj)) (nm : σ → List (Str × Value)) (P : σ → Prop) (μ : σ → Nat) (c : σ) (s₂ : Shared) : Prop :=
  ∃ c' h' tk' m' nx', s₂ = { s with heap := h', toks := tk' } ∧ Fr g L h' m' ∧ News g L h' nx' ∧ (∀ p ∈ led c', p ∈ nx') ∧ P c' ∧ μ c' < μ c ∧ Knows m' (nm c')
noncomputable def WPost {σ : Type} (g : Heap) (L : Addr) (s : Shared) (led : σ → List (Addr × Obj)) (nm : σ → List (Str × Value)) (P : σ → Prop) (μ : σ → Nat) (c : σ) (Q : Flow → Shared → Prop) (f : Flow) (s₂ : Shared) : Prop :=
  match f with
  | .next => WEnd g L s led nm P μ c s₂
  | .cont => WEnd g L s led nm P μ c s₂
  | .brk => Q .next s₂
  | .ret v => Q (.ret v) s₂
theorem WEnd.intro {σ : Type} {g h' : Heap} {L : Addr} {s : Shared} {led : σ → List (Addr × Obj)} {nm : σ → List (Str × Value)} {P : σ → Prop} {μ : σ → Nat} {c : σ} {tk' : Nat} {m' : Str → Option Value} {nx' : List (Addr × Obj)} (c' : σ)
    (F : Fr g L h' m') (N : News g L h' nx') (hn : ∀ p ∈ led c', p ∈ nx') (hp : P c') (hm : μ c' < μ c) (hk : Knows m' (nm c')) : WEnd g L s led nm P μ c { s with heap := h', toks := tk' } :=
  ⟨c', h', tk', m', nx', rfl, F, N, hn, hp, hm, hk⟩
theorem WPost.nx {σ : Type} {g : Heap} {L : Addr} {s : Shared} {led : σ → List (Addr × Obj)} {nm : σ → List (Str × Value)} {P : σ → Prop} {μ : σ → Nat} {c : σ} {Q : Flow → Shared → Prop} {s₂ : Shared} (h : WEnd g L s led nm P μ c s₂) : WPost g L s led nm P μ c Q .next s₂ := h
theorem WPost.cn {σ : Type} {g : Heap} {L : Addr} {s : Shared} {led : σ → List (Addr × Obj)} {nm : σ → List (Str × Value)} {P : σ → Prop} {μ : σ → Nat} {c : σ} {Q : Flow → Shared → Prop} {s₂ : Shared} (h : WEnd g L s led nm P μ c s₂) : WPost g L s led nm P μ c Q .cont s₂ := h
theorem while_own {σ : Type} {prog : Program} {w : World} {A : Around} {E : Value → Shared → Prop} {Q : Flow → Shared → Prop} {s : Shared} {env : Env} {g : Heap} {L : Addr} {test : PySem.Expr} {body : List Stmt} {pos : Pos} {m : Str → Option Value} {nx : List (Addr × Obj)}
    (led : σ → List (Addr × Obj)) (nm : σ → List (Str × Value)) (P : σ → Prop) (μ : σ → Nat) (c₀ : σ)
    (F : Fr g L s.heap m) (N : News g L s.heap nx) (hn : ∀ p ∈ led c₀, p ∈ nx) (hp : P c₀) (hk : Knows m (nm c₀))
    (turn : ∀ c u h tk, P c → Fr g L h (over (nm c) u) → News g L h (led c) →
      wpAny (model prog w) A (isTrue test env (eval test env)) (fun b s₂ =>
        if b = true then wpAny (model prog w) A (execs body env) (WPost g L s led nm P μ c Q) E s₂ else Q .next s₂) E { s with heap := h, toks := tk })
    (hE : PassesOwn (model prog w) A env E) :
    wpAny (model prog w) A (exec (.While test body [] pos) env) Q E s := by
  refine While_inv2 (fun n m nx => ∃ c : σ, nx = led c ∧ μ c = n ∧ P c ∧ Knows m (nm c)) F (fun p hp => N p (hn p hp)) ⟨c₀, rfl, rfl, hp, hk⟩ ?_ hE
  rintro n m₁ nx₁ h tk F₁ N₁ ⟨c, e1, rfl, hc, hk₁⟩
  subst e1
  refine wpAny_mono (turn c m₁ h tk hc (Fr.over F₁ hk₁) N₁) (fun b s₂ q => ?_) fun _ _ x => x
  cases b with
  | false => simpa using q
  | true =>
    simp only [if_true] at q ⊢
    refine wpAny_mono q (fun f s₃ z => ?_) fun _ _ x => x
    cases f with
    | ret v => exact z
    | brk => exact z
    | next =>
      obtain ⟨c', h', tk', m', nx', rfl, F', N', hn', hp', hm', hk'⟩ := z
      exact ⟨h', tk', m', led c', μ c', rfl, F', fun p hp => N' p (hn' p hp), hm', c', rfl, rfl, hp', hk'⟩
    | cont =>
      obtain ⟨c', h', tk', m', nx', rfl, F', N', hn', hp', hm', hk'⟩ := z
      exact ⟨h', tk', m', led c', μ c', rfl, F', fun p hp => N' p (hn' p hp), hm', c', rfl, rfl, hp', hk'⟩
theorem knows_int {m : Str → Option Value} {x : Str} {i j : Int} {tk : Tok} {r : List (Str × Value)} (h : m x = some (.int i tk)) (e : i = j) (k : Knows m r) : Knows m ((x, .int j tk) :: r) := ⟨e ▸ h, k⟩
theorem no_true {b : Bool} (h : b = false) : ¬ b = true := by rw [h]; exact Bool.false_ne_true
/-- the walk holds here -/
noncomputable def Hold (P : Prop) : Prop := P
theorem Hold.mk {P : Prop} (h : Hold P) : P := h
theorem Hold.go {P : Prop} (h : P) : Hold P := h
theorem setup_loop : True := by
  k_with "m turn" => (first | (with_reducible refine WPost.nx ?_) | (with_reducible refine WPost.cn ?_) | dsimp only [WPost])
  trivial

-- 09_white
noncomputable def white (d : Array UInt8) (k : Nat) : Int := if ([9, 32].any fun x => x == (KBw.bInts d).getD (k : Int).toNat 0) = true then (k : Int) + 1 else lineEnd d k
noncomputable def pastWhite (d : Array UInt8) : Nat → Nat → Nat
  | 0, k => k
  | n + 1, k => if k < (KBw.bInts d).length then (if white d k < 0 then k else pastWhite d n (white d k).toNat) else k
theorem white_bound {d : Array UInt8} {k : Nat} (hk : k < (KBw.bInts d).length) (h : 0 ≤ white d k) : (k : Int) < white d k ∧ white d k ≤ (KBw.bInts d).length := by
  unfold white at h ⊢
  split
  · omega
  · rename_i q
    rw [if_neg q] at h
    have := lineEnd_bound h
    rw [KBw.ints_length]
    omega
theorem pastWhite_step {d : Array UInt8} {n k : Nat} (hk : k < (KBw.bInts d).length) (h : ¬ white d k < 0) : pastWhite d (n + 1) k = pastWhite d n (white d k).toNat := by
  rw [pastWhite, if_pos hk, if_neg h]
theorem pastWhite_stop {d : Array UInt8} {n k : Nat} (h : ¬ k < (KBw.bInts d).length ∨ white d k < 0) : pastWhite d n k = k := by
  cases n with
  | zero => rfl
  | succ n =>
    rw [pastWhite]
    split
    · rw [if_pos (h.resolve_left (by simpa using ‹_›))]
    · rfl
theorem pastWhite_le {d : Array UInt8} : ∀ {n k : Nat}, k ≤ (KBw.bInts d).length → k ≤ pastWhite d n k ∧ pastWhite d n k ≤ (KBw.bInts d).length
  | 0, k, h => ⟨Nat.le_refl _, h⟩
  | n + 1, k, h => by
    rw [pastWhite]
    split
    · split
      · exact ⟨Nat.le_refl _, h⟩
      · rename_i q q'
        have w := white_bound q (by omega)
        have := @pastWhite_le d n (white d k).toNat (by omega)
        omega
    · exact ⟨Nat.le_refl _, h⟩
section
variable {prog : Program} {w : World}
  {A : Around} {base : Heap} {fr : List Env} {s : Shared} {Q : Value → Shared → Prop} {E : Value → Shared → Prop}
theorem c_past_white {d : Array UInt8} {t u : Tok} {k : Nat} (G : Gr w base) (B : Below A base fr s.heap) (hR : Room A 3) (hz : d.size ≤ 1000) (hkz : k ≤ 1000)
  (hret : ∀ tk h' tk', Keep s.heap h' → Q (.int (pastWhite d d.size k : Nat) tk) { s with heap := h', toks := tk' }) :
  wpAny (model prog w) A (call (.ref 111) [.bytes d t, .int k u]) Q E s := by
  k_extra "m enter"
  case kbinds => exact [("data", .bytes d t), ("at", .int k u)]
  k_extra "m pure"
  generalize hks : KBw.bInts d = ks
  have hkl : ks.length ≤ 1000 := by rw [← hks, KBw.ints_length]; exact hz
  have hkd : ks.length = d.size := by rw [← hks, KBw.ints_length]
  k_steps
  refine Hold.go ?_
  refine while_own (σ := Nat × Nat × Tok) (fun _ => []) (fun c => [("at", .int (c.2.1 : Int) c.2.2), ("data", .bytes d t)]) (fun c => pastWhite d c.1 c.2.1 = pastWhite d d.size k ∧ ks.length ≤ c.2.1 + c.1 ∧ c.2.1 ≤ 1000) (fun c => c.1) (d.size, k, u) (by assumption) (by assumption) (fun _ h => nomatch h) ⟨rfl, by omega, hkz⟩ ⟨rfl, rfl, trivial⟩ ?_ (Inside.pass IN)
  refine pr3 fun n j tj u₁ h tk => an3 fun hp1 hp2 hp3 F' N' => ?_
  dsimp only at hp1 hp2 hp3 F' N'
  (try dsimp only)
  k_steps
  · obtain ⟨n', rfl⟩ : ∃ n', n = n' + 1 := by first | exact fuel (by assumption) (by assumption) | exact fuel2 (by assumption) (by assumption) | exact ⟨n - 1, by omega⟩
    have e : white d j = ((j + 1 : Nat) : Int) := by unfold white; rw [hks, if_pos (by assumption)]; rfl
    rw [pastWhite_step (by rw [hks]; omega) (by omega), e] at hp1
    k_extra "m turn"
    exact WEnd.intro (n', j + 1, _) (by assumption) (by assumption) (fun _ h => nomatch h) ⟨hp1, by dsimp only; omega, by dsimp only; omega⟩ (Nat.lt_succ_self _) ⟨rfl, rfl, trivial⟩
  · have e : white d j < 0 := by unfold white; rw [hks, if_neg (no_true (by assumption))]; assumption
    rw [pastWhite_stop (.inr e)] at hp1
    k_extra "m out"
    exact at_int (hret _ _ _ (kept0 kb (by assumption))) (by rw [← hp1])
  · obtain ⟨n', rfl⟩ : ∃ n', n = n' + 1 := by first | exact fuel (by assumption) (by assumption) | exact fuel2 (by assumption) (by assumption) | exact ⟨n - 1, by omega⟩
    have e : white d j = lineEnd d j := by unfold white; rw [hks, if_neg (no_true (by assumption))]
    have b := lineEnd_bound (d := d) (k := j) (by omega)
    obtain ⟨j', hj⟩ : ∃ j' : Nat, lineEnd d j = j' := ⟨(lineEnd d j).toNat, by omega⟩
    rw [pastWhite_step (by rw [hks]; omega) (by omega), e, hj] at hp1
    k_extra "m turn"
    exact WEnd.intro (n', j', _) (by assumption) (by assumption) (fun _ h => nomatch h) ⟨hp1, by dsimp only; omega, by dsimp only; omega⟩ (Nat.lt_succ_self _) (knows_int rfl hj ⟨rfl, trivial⟩)
  · rw [pastWhite_stop (.inl (by rw [hks]; omega))] at hp1
    k_extra "m out"
    exact at_int (hret _ _ _ (kept0 kb (by assumption))) (by rw [← hp1])
end


-- 10_join
section
open Builtin
theorem slot_bytes_join : Slot "bytes" "join" "bytes.join" :=
  .of (owner := "bytes") (n := "join") (by rw [typeLookup_type, builtinLookup_eq_fast]; kernel_rfl) (by decide +kernel) (by decide +kernel) (by decide +kernel)
    (by first | exact .inl (by decide +kernel) | exact .inr (by decide +kernel)) (by rw [isSubtype_type]; kernel_rfl)
theorem type_bytes_join : typeOf (.builtin "bytes.join") = pure (.type "method_descriptor") := by show builtinType _ = _; rw [builtinType_eq_fast]; kernel_rfl
theorem entry_bytes_join : entryFor table "bytes.join" = some Builtin.«bytes.join» := entryFor_of_tree (by kernel_rfl)
theorem args_bytes_join_2 (a b : Value) : argsOk "bytes.join" ⟨[a, b], []⟩ := by
  unfold argsOk; rw [signature?_of (id := "bytes.join") (n := ['n', 'i', 'o', 'j']) (o := ['s', 'e', 't', 'y', 'b']) (by kernel_rfl) FB.owner_bytes]; kernel_rfl
noncomputable def bvals (xs : List (Array UInt8 × Tok)) : List Value := xs.map fun x => .bytes x.1 x.2
noncomputable def flat (xs : List (Array UInt8 × Tok)) : Array UInt8 := xs.foldl (fun a x => a ++ x.1) #[]
theorem take_eq {id : String} {b : Array UInt8} {t : Tok} : Bytes.takeBufferQuiet? id (.bytes b t) 0 = pure (some (b, none)) := by
  unfold Bytes.takeBufferQuiet? Bytes.takeBuffer?
  rw [KBy.special_eq KBy.look_buffer, KBy.own_buffer]
  have e : (0 == Bytes.fullReadOnly) = false := by decide +kernel
  rw [e]
  simp only [KBy.buffer_eq]
  rfl
theorem joined_go (l : List (Array UInt8)) : ∀ (k : Nat) (acc : Array UInt8), (l.zipIdx k).foldl (fun out (p, i) => (if i > 0 then out ++ #[] else out) ++ p) acc = l.foldl (· ++ ·) acc := by
  induction l with
  | nil => intro k acc; rfl
  | cons x l ih =>
    intro k acc
    rw [List.zipIdx_cons, List.foldl_cons, List.foldl_cons, ih]
    congr 1
    show (if k > 0 then acc ++ #[] else acc) ++ x = acc ++ x
    split <;> simp
theorem flat_eq (xs : List (Array UInt8 × Tok)) : flat xs = (xs.map (·.1)).foldl (· ++ ·) #[] := by unfold flat; rw [List.foldl_map]
theorem size_go (l : List (Array UInt8)) : ∀ (acc : Array UInt8), l.foldl (fun n x => n + x.size) acc.size = (l.foldl (· ++ ·) acc).size := by
  induction l with
  | nil => intro acc; rfl
  | cons x l ih => intro acc; rw [List.foldl_cons, List.foldl_cons, ← ih, Array.size_append]
theorem letGo_all {M : Model} {A : Around} {E : Value → Shared → Prop} {s : Shared} {Q : Unit → Shared → Prop} {keep : List Value} (h : Q () s) : ∀ (taken : List (Value × Option Value)), (∀ y ∈ taken, y.2 = none) → wpAny M A (Bytes.joinLetGo taken keep) Q E s
  | [], _ => wpAny_pure h
  | (x, w) :: r, hn => by
    have hw : w = none := hn (x, w) (.head _)
    subst hw
    unfold Bytes.joinLetGo
    exact wpAny_bind (wpAny_letGo (letGo_all h r fun y hy => hn y (.tail _ hy)))
theorem gives_join {M : Model} {A : Around} {E : Value → Shared → Prop} {s : Shared} {l : Addr} {t : Tok} {xs : List (Array UInt8 × Tok)} {Q : Fin → Shared → Prop} (hl : s.heap.IsList l (bvals xs).toArray) (hsz : (flat xs).size ≤ sizeLine)
   (h : ∀ t' tk, Q (.done (.ret (.bytes (flat xs) t'))) { s with toks := tk }) : wpAny M A («bytes.join» ⟨[.bytes #[] t, .ref l], []⟩) Q E s := by
  obtain ⟨o, ho, hc, n, hd⟩ := hl
  have hT : s.TypeIs (.ref l) "list" := ⟨o, ho, hc⟩
  show wpAny M A (Bytes.joinItems (.ref l) >>= fun r => _) Q E s
  unfold Bytes.joinItems
  refine wpAny_bind (wpAny_bind (wpAny_typeOf hT ?_))
  refine wpAny_ite ?_
  rw [if_pos (by decide)]
  refine wpAny_pure ?_
  refine wpAny_bind ?_
  unfold seqItems?
  refine wpAny_bind (wpAny_load ho ?_)
  rw [hd]
  refine wpAny_pure ?_
  dsimp only
  rw [if_pos (show (Bytes.Kind.bytes == Bytes.Kind.bytes) = true from rfl)]
  by_cases h1 : xs.length = 1
  · match xs, h1, hd, h, hsz with
    | [x], _, hd, h, hsz =>
      show wpAny M A (typeOf (.bytes x.1 x.2) >>= fun r => _) Q E s
      refine wpAny_bind (wpAny_typeOf (typeIs_bytes s x.1 x.2) ?_)
      rw [if_pos (by decide)]
      refine wpAny_bind (wpAny_rule ?_)
      have := h x.2 s.toks
      rw [show flat [x] = x.1 from Array.empty_append] at this
      exact wpAny_pure this
  · have hne : ∀ x, (bvals xs).toArray ≠ #[x] := fun x e => h1 (by
      have := congrArg Array.size e
      simpa [bvals] using this)
    have hget : ∀ i (hi : i < xs.length), (bvals xs).toArray.getD i .none = .bytes xs[i].1 xs[i].2 := fun i hi => by
      simp [bvals, Array.getD, hi]
    have hvs : (bvals xs).toArray.size = xs.length := by simp [bvals]
    generalize (bvals xs).toArray = vs at hne hd hget hvs ⊢
    obtain ⟨vl⟩ := vs
    rcases vl with _ | ⟨x, _ | ⟨y, r⟩⟩
    rotate_left
    · exact absurd rfl (hne x)
    all_goals
      show wpAny M A (forIn [:_] (#[], []) _ >>= _) Q E s
      rw [Std.Legacy.Range.forIn_eq_forIn_range']
      refine wpAny_bind (wpAny_forIn_list _ (fun rest (b : Array (Array UInt8) × List (Value × Option Value)) s' => s' = s ∧ ∃ i, i ≤ xs.length ∧ rest = List.range' i (xs.length - i) ∧ b.1.toList = (xs.take i).map (·.1) ∧ (∀ y ∈ b.2, y.1.onHeap = false ∧ y.2 = none))
        _ (fun i rest b s' hI => ?_) (fun b s' hI => ?_) _ _ ⟨rfl, 0, Nat.zero_le _, by rw [← hvs]; simp [Std.Legacy.Range.size], by simp, fun _ h => nomatch h⟩)
    any_goals
      obtain ⟨rfl, i', hi, hr, hb, ht⟩ := hI
      obtain ⟨rfl, hlt, hrest⟩ : i = i' ∧ i' < xs.length ∧ rest = List.range' (i' + 1) (xs.length - (i' + 1)) := by
        cases q : xs.length - i' with
        | zero => rw [q] at hr; cases hr
        | succ k => rw [q, List.range'_succ] at hr; exact ⟨(List.cons.inj hr).1, by omega, by rw [(List.cons.inj hr).2]; congr 1; omega⟩
      refine wpAny_bind (wpAny_bind (wpAny_load ho ?_))
      rw [hd]
      refine wpAny_pure ?_
      dsimp only
      rw [if_neg (show ¬ ((Bytes.Kind.bytes == Bytes.Kind.bytearray || b.2.any fun x => x.1.onHeap) = true) from by
        rw [show (Bytes.Kind.bytes == Bytes.Kind.bytearray) = false from rfl, Bool.false_or]
        intro q
        obtain ⟨z, hz, hz'⟩ := List.any_eq_true.mp q
        rw [(ht z hz).1] at hz'; cases hz')]
      rw [hget _ hlt]
      refine wpAny_bind (wpAny_holding (wpAny_of_eq take_eq ?_))
      refine wpAny_bind (wpAny_bind (wpAny_load ho ?_))
      rw [hd]
      refine wpAny_pure ?_
      dsimp only
      rw [if_neg (show ¬ ((Array.size _ != Array.size _) = true) from by simp)]
      refine wpAny_pure ⟨rfl, i + 1, hlt, hrest, ?_, ?_⟩
      · dsimp only
        rw [Array.toList_push, hb, List.take_succ_eq_append_getElem hlt, List.map_append]; rfl
      · intro z hz
        rcases List.mem_append.mp hz with hz | hz
        · exact ht z hz
        · rw [List.mem_singleton.mp hz]; exact ⟨rfl, rfl⟩
    all_goals
      obtain ⟨rfl, i', hi, hr, hb, ht⟩ := hI
      have hi' : i' = xs.length := by
        cases q : xs.length - i' with
        | zero => omega
        | succ k => rw [q, List.range'_succ] at hr; cases hr
      subst hi'
      rw [List.take_length] at hb
      refine wpAny_bind (wpAny_of_eq (a := #[]) rfl ?_)
      have hj : Bytes.joined #[] b.1.toList = flat xs := by
        rw [hb, flat_eq]
        exact joined_go _ 0 #[]
      have hs : b.1.foldl (fun n x => n + x.size) 0 = (flat xs).size := by
        rw [← Array.foldl_toList, hb, flat_eq]
        exact size_go _ #[]
      rw [if_neg (show ¬ (Bytes.tooLong (b.1.foldl (fun n x => n + x.size) (Array.size (#[] : Array UInt8) * (b.1.size - 1))) = true) from by
        rw [show Array.size (#[] : Array UInt8) * (b.1.size - 1) = 0 from Nat.zero_mul _, hs]
        simp only [Bytes.tooLong, decide_eq_true_eq]; omega), hj]
      refine wpAny_bind (wpAny_mkBytes ?_ hsz)
      refine wpAny_bind (wpAny_holding (wpAny_point ?_))
      exact wpAny_bind (letGo_all (wpAny_pure (h _ _)) _ fun y hy => (ht y hy).2)
section
variable {prog : Program} {w : World} {A : Around} {E : Value → Shared → Prop} {s : Shared} {t : Tok} {l : Addr} {xs : List (Array UInt8 × Tok)} {Q : Value → Shared → Prop}
theorem join_bytes (hl : s.heap.IsList l (bvals xs).toArray) (hsz : (flat xs).size ≤ 16777216) (h : ∀ t' tk, Q (.bytes (flat xs) t') { s with toks := tk }) :
    wpAny (model prog w) A (call (.builtin "bytes.join") [.bytes #[] t, .ref l]) Q E s :=
  call_meets slot_bytes_join (typeIs_bytes _ _ _) entry_bytes_join (args_bytes_join_2 _ _) (S := fun _ R s => s.heap.IsList l (bvals xs).toArray ∧ ∀ t' tk, R (.ok (.ret (.bytes (flat xs) t'))) { s with toks := tk })
    (.of_wp fun prog w A R s hS => gives_join hS.1 (by rw [sizeLine_eq]; exact hsz) fun t' tk => ⟨_, rfl, hS.2 t' tk⟩) ⟨hl, h⟩
theorem method_join {M : Model} {b : Array UInt8} {pl : Sem Bool} {Q : Value × List Value → Shared → Prop} (h : Q (.builtin "bytes.join", [.bytes b t]) s) : wpAny M A (getMethod (.bytes b t) "join" pl) Q E s :=
  getMethod_builtin (typeIs_bytes _ _ _) FB.plainAttrs_bytes slot_bytes_join type_bytes_join KBd.noRef h
end
end
theorem bvals_push {xs : List (Array UInt8 × Tok)} {o : Array UInt8} {t : Tok} : (bvals xs).toArray.push (.bytes o t) = (bvals (xs ++ [(o, t)])).toArray := by simp [bvals]
theorem flat_push {xs : List (Array UInt8 × Tok)} {o : Array UInt8} {t : Tok} : flat (xs ++ [(o, t)]) = flat xs ++ o := by simp [flat]
theorem bvals_size {xs : List (Array UInt8 × Tok)} (h : xs.length ≤ 100000) : (bvals xs).toArray.size ≤ sizeLine := by simp [bvals, sizeLine_eq]; omega
theorem isList_of {g h : Heap} {L l : Addr} {its : Array Value} {n : Nat} {nx : List (Addr × Obj)} (N : News g L h nx) (hm : (l, listOf its n) ∈ nx) : h.IsList l its := ⟨_, (N _ hm).1, rfl, n, rfl⟩
theorem setup_join : True := by
  k_with "m join" => ((with_reducible rename News _ _ _ _ => kN); refine join_bytes (isList_of kN (by k_mem)) (by k_extra "m om") ?_; intro t' tk')
  k_with "m size" => ((with_reducible refine bvals_size ?_); k_extra "m om")
  trivial

-- 11_closed
noncomputable def closedLoop (d : Array UInt8) (b : Nat) (cl br : Array UInt8) : Nat → Nat → Array UInt8 → Except Int (Array UInt8 × Nat)
  | 0, _, _ => .error (-1)
  | n + 1, k, acc =>
    if ((KBy.picked d (some (k : Int)) (some ((k : Int) + 1))).toList != cl.toList) = true then
      if (if (k : Int) < ((KBw.bInts d).length : Int) then br.contains ((KBw.bInts d).getD (k : Int).toNat 0).toNat.toUInt8 else false) = true then .error k
      else match insideAt d k b with
        | .error q => .error q
        | .ok (o, j) => closedLoop d b cl br n j.toNat (acc ++ o)
    else .ok (acc, k)
noncomputable def closedAt (d : Array UInt8) (b : Nat) (cl br : Array UInt8) : Except Int (Array UInt8 × Nat) := closedLoop d b cl br (d.size + 2) (b + 1) #[]
section
variable {prog : Program} {w : World}
  {A : Around} {base : Heap} {fr : List Env} {s : Shared} {Q : Value → Shared → Prop} {E : Value → Shared → Prop}
theorem c_closed_at {d cl br : Array UInt8} {t u u2 u3 : Tok} {b : Nat} (G : Gr w base) (B : Below A base fr s.heap) (hR : Room A 5) (hz : d.size ≤ 999) (hb : b < d.size) (hcl : cl.size = 1)
  (hret : ∀ o j, closedAt d b cl br = .ok (o, j) → ∀ a t1 t2 h' tk', Keep s.heap h' → s.heap.get? a = none → h'.get? a = some (tupO [.bytes o t1, .int ((j : Int) + 1) t2]) → Q (.ref a) { s with heap := h', toks := tk' })
  (hE : ∀ q, closedAt d b cl br = .error q → ∀ e h' tk', Fly base fr e q .none h' → UpBut [] s.heap h' → E (.ref e) { s with heap := h', toks := tk' }) :
  wpAny (model prog w) A (call (.ref 83) [.bytes d t, .int b u, .bytes cl u2, .bytes br u3]) Q E s := by
  k_extra "m enter"
  case kbinds => exact [("data", .bytes d t), ("begun", .int b u), ("closing", .bytes cl u2), ("barred", .bytes br u3)]
  k_extra "m pure"
  generalize hks : KBw.bInts d = ks
  have hkl : ks.length ≤ 999 := by rw [← hks, KBw.ints_length]; exact hz
  have hkd : d.size = ks.length := by rw [← hks, KBw.ints_length]
  have hke : (KBw.bInts d).length = d.size := KBw.ints_length d
  generalize hW : closedAt d b cl br = W at hret hE
  k_steps
  refine Hold.go ?_
  refine while_own (σ := Nat × Nat × Tok × List (Array UInt8 × Tok) × Nat) (fun c => [(l', PySem.W.listOf (bvals c.2.2.2.1).toArray c.2.2.2.2)]) (fun c => [("at", .int (c.2.1 : Int) c.2.2.1), ("parts", .ref l'), ("barred", .bytes br u3), ("closing", .bytes cl u2), ("begun", .int b u), ("data", .bytes d t)]) (fun c => closedLoop d b cl br c.1 c.2.1 (flat c.2.2.2.1) = W ∧ d.size + 2 ≤ c.2.1 + c.1 ∧ c.2.1 ≤ d.size ∧ (flat c.2.2.2.1).size ≤ c.2.1 ∧ c.2.2.2.1.length ≤ c.2.1) (fun c => c.1) (d.size + 2, b + 1, _, [], 0) (by assumption) (by assumption) (fun p hp => by rw [List.mem_singleton.mp hp]; exact .head _) ⟨hW, by dsimp only; omega, by dsimp only; omega, by simp [flat], by simp⟩ ⟨rfl, rfl, rfl, rfl, rfl, rfl, trivial⟩ ?_ (Inside.pass IN)
  refine pr5 fun n k tk acc ep u₁ h tk2 => an5 fun hp1 hp2 hp3 hp4 hp5 F' N' => ?_
  dsimp only at hp1 hp2 hp3 hp4 hp5 F' N'
  (try dsimp only)
  k_steps
  all_goals first
    | (k_extra "m raised"; refine hE _ ?_ _ _ _ x₂ (UpBut.of (kept kb (by assumption)) u₂))
    | refine hE _ ?_ _ _ _ (by assumption) (by assumption)
    | (k_extra "m out"; rename News _ _ _ _ => N9; refine hret _ _ ?_ _ _ _ _ _ (kept0 kb (by assumption)) (newest kb N9).1 (newest kb N9).2)
    | k_extra "m turn"
  all_goals (obtain ⟨n', rfl⟩ : ∃ n', n = n' + 1 := by first | exact fuel (by assumption) (by assumption) | exact fuel2 (by assumption) (by assumption) | exact ⟨n - 1, by omega⟩)
  all_goals rw [closedLoop] at hp1
  all_goals simp only [*, if_true, if_false, Bool.false_eq_true] at hp1
  all_goals first
    | exact hp1.symm
    | exact WEnd.intro (n', j', t2, acc ++ [(o, t1)], ep + 1) (by assumption) (by assumption) (fun p hp => by rw [List.mem_singleton.mp hp, ← bvals_push]; exact .tail _ (.head _)) ⟨by rw [flat_push]; exact hp1, by dsimp only; omega, by dsimp only; omega, by rw [flat_push, Array.size_append]; dsimp only; omega, by rw [List.length_append]; dsimp only [List.length]; omega⟩ (Nat.lt_succ_self _) ⟨rfl, rfl, rfl, rfl, rfl, rfl, trivial⟩
end


-- 12_cut
/-- the end of a walked piece -/
noncomputable def Cut {α σ : Type} (g : Heap) (L : Addr) (s : Shared) (led : σ → List (Addr × Obj)) (nm : σ → List (Str × Value)) (P : α → σ → Prop) (v : α) (s₂ : Shared) : Prop :=
  ∃ c h' tk' m' nx', s₂ = { s with heap := h', toks := tk' } ∧ P v c ∧ Fr g L h' m' ∧ News g L h' nx' ∧ (∀ p ∈ led c, p ∈ nx') ∧ Knows m' (nm c)
theorem Cut.intro {α σ : Type} {g h' : Heap} {L : Addr} {s : Shared} {led : σ → List (Addr × Obj)} {nm : σ → List (Str × Value)} {P : α → σ → Prop} {v : α} {tk' : Nat} {m' : Str → Option Value} {nx' : List (Addr × Obj)} (c : σ)
    (F : Fr g L h' m') (N : News g L h' nx') (hp : P v c) (hn : ∀ p ∈ led c, p ∈ nx') (hk : Knows m' (nm c)) : Cut g L s led nm P v { s with heap := h', toks := tk' } :=
  ⟨c, h', tk', m', nx', rfl, hp, F, N, hn, hk⟩
theorem cutAt {α σ : Type} {M : Model} {A : Around} {E : Value → Shared → Prop} {Q : α → Shared → Prop} {s : Shared} {g : Heap} {L : Addr} {t : Sem α} {m : Str → Option Value}
    (_F : Fr g L s.heap m) (led : σ → List (Addr × Obj)) (nm : σ → List (Str × Value)) (P : α → σ → Prop)
    (h1 : wpAny M A t (Cut g L s led nm P) E s)
    (h2 : ∀ v c u h' tk', P v c → Fr g L h' (over (nm c) u) → News g L h' (led c) → Q v { s with heap := h', toks := tk' }) : wpAny M A t Q E s := by
  refine wpAny_mono h1 (fun v s₂ q => ?_) fun _ _ x => x
  obtain ⟨c, h', tk', m', nx', rfl, hp, F, N, hn, hk⟩ := q
  have F' := Fr.over F hk
  exact h2 v c m' h' tk' hp F' (fun p hp => N p (hn p hp))
/-- the walk stops at an If, at a BoolOp, at an IfExp -/
structure StopIf : Prop where
  on : 1 + 1 = 2
structure StopBool : Prop where
  on : 1 + 1 = 2
structure StopIfExp : Prop where
  on : 1 + 1 = 2
structure StopComp : Prop where
  on : 1 + 1 = 2

-- 13_comment
noncomputable def commentDepth (d : Array UInt8) (k n : Nat) : Nat := if ((KBy.picked d (some (k : Int)) (some ((k : Int) + 1))).toList == #[40].toList) = true then n + 1 else if ((KBy.picked d (some (k : Int)) (some ((k : Int) + 1))).toList == #[41].toList) = true then n - 1 else n
noncomputable def joined (xs : List (Array UInt8)) : Array UInt8 := xs.foldl (· ++ ·) #[]
noncomputable def commentLoop (d : Array UInt8) (b : Nat) : Nat → Nat → Nat → List (Array UInt8) → Except Int (Array UInt8 × Nat)
  | 0, _, _, _ => .error (-1)
  | f + 1, n, k, xs =>
    if 0 < n then
      if 20 < commentDepth d k n then .error k
      else match insideAt d k b with
        | .error q => .error q
        | .ok (o, j) => commentLoop d b f (commentDepth d k n) j.toNat (xs ++ [o])
    else .ok (joined xs.dropLast, k)
noncomputable def commentAt (d : Array UInt8) (b : Nat) : Except Int (Array UInt8 × Nat) := commentLoop d b (d.size + 2) 1 (b + 1) []
theorem flat_init (xs : List (Array UInt8 × Tok)) : (flat xs.dropLast).size ≤ (flat xs).size := by
  rcases List.eq_nil_or_concat xs with rfl | ⟨ys, ⟨o, t⟩, rfl⟩
  · exact Nat.le_refl _
  · rw [List.concat_eq_append, List.dropLast_concat, flat_push, Array.size_append]; omega
theorem flat_init_eq (xs : List (Array UInt8 × Tok)) : flat xs.dropLast = joined (xs.map (·.1)).dropLast := by
  rw [flat_eq, List.map_dropLast]; rfl
theorem pick_init {xs : List (Array UInt8 × Tok)} : kms_pick (bvals xs).toArray.toList none (some (-1)) = bvals xs.dropLast := by
  have e : (bvals xs).toArray.toList = xs.map fun x => Value.bytes x.1 x.2 := rfl
  rw [e]
  unfold kms_pick bvals
  rw [List.dropLast_eq_take, List.map_take]
  simp [kms_lo, kms_hi]
section
variable {prog : Program} {w : World}
  {A : Around} {base : Heap} {fr : List Env} {s : Shared} {Q : Value → Shared → Prop} {E : Value → Shared → Prop}
theorem c_comment_at {d : Array UInt8} {t u : Tok} {b : Nat} (G : Gr w base) (B : Below A base fr s.heap) (hR : Room A 5) (hz : d.size ≤ 999) (hb : b < d.size)
  (hret : ∀ o j, commentAt d b = .ok (o, j) → ∀ a t1 t2 h' tk', Keep s.heap h' → s.heap.get? a = none → h'.get? a = some (tupO [.bytes o t1, .int (j : Int) t2]) → Q (.ref a) { s with heap := h', toks := tk' })
  (hE : ∀ q, commentAt d b = .error q → ∀ e h' tk', Fly base fr e q .none h' → UpBut [] s.heap h' → E (.ref e) { s with heap := h', toks := tk' }) :
  wpAny (model prog w) A (call (.ref 90) [.bytes d t, .int b u]) Q E s := by
  k_extra "m enter"
  case kbinds => exact [("data", .bytes d t), ("begun", .int b u)]
  k_extra "m pure"
  generalize hks : KBw.bInts d = ks
  have hke : (KBw.bInts d).length = d.size := KBw.ints_length d
  have hkl : ks.length ≤ 999 := by rw [← hks, hke]; exact hz
  have hkd : d.size = ks.length := by rw [← hks, hke]
  generalize hW : commentAt d b = W at hret hE
  have stop : StopIf := ⟨rfl⟩
  k_steps
  refine Hold.go ?_
  refine while_own (σ := Nat × Nat × Tok × List (Array UInt8 × Tok) × Nat × Nat × Tok) (fun c => [(l', PySem.W.listOf (bvals c.2.2.2.1).toArray c.2.2.2.2.1)]) (fun c => [("at", .int (c.2.1 : Int) c.2.2.1), ("depth", .int (c.2.2.2.2.2.1 : Int) c.2.2.2.2.2.2), ("parts", .ref l'), ("begun", .int b u), ("data", .bytes d t)])
    (fun c => commentLoop d b c.1 c.2.2.2.2.2.1 c.2.1 (c.2.2.2.1.map (·.1)) = W ∧ d.size + 2 ≤ c.2.1 + c.1 ∧ c.2.1 ≤ d.size ∧ c.2.2.2.2.2.1 ≤ 20 ∧ c.2.2.2.1.length ≤ c.2.1 ∧ (flat c.2.2.2.1).size ≤ c.2.1) (fun c => c.1) (d.size + 2, b + 1, _, [], 0, 1, _) (by assumption) (by assumption) (fun p hp => by rw [List.mem_singleton.mp hp]; exact .head _) ⟨hW, by dsimp only; omega, by dsimp only; omega, by dsimp only; omega, by simp, by simp [flat]⟩ ⟨rfl, rfl, rfl, rfl, rfl, trivial⟩ ?_ (Inside.pass IN)
  refine pr7 fun f k tka acc ep n tn u₁ h tk2 => an6 fun hp1 hp2 hp3 hp4 hp5 hp6 F' N' => ?_
  dsimp only at hp1 hp2 hp3 hp4 hp5 hp6 F' N'
  (try dsimp only)
  k_steps
  · (rename StopIf => st0; clear st0)
    obtain ⟨f', rfl⟩ : ∃ f', f = f' + 1 := by first | exact fuel (by assumption) (by assumption) | exact fuel2 (by assumption) (by assumption) | exact ⟨f - 1, by omega⟩
    have hn : 0 < n := by omega
    rw [commentLoop, if_pos hn] at hp1
    refine Hold.go (cutAt (σ := Tok) (by assumption) (fun _ => [(l', PySem.W.listOf (bvals acc).toArray ep)]) (fun c => [("at", .int (k : Int) tka), ("depth", .int (commentDepth d k n : Int) c), ("parts", .ref l'), ("begun", .int b u), ("data", .bytes d t)]) (fun v _ => v = .next ∧ commentDepth d k n ≤ 20) ?_ ?_)
    · k_steps
      all_goals first
        | (k_extra "m raised"; refine hE _ ?_ _ _ _ x₂ (UpBut.of (kept kb (by assumption)) u₂); rw [← hp1, if_pos (by unfold commentDepth; rw [if_pos (by assumption)]; omega)])
        | (have e : commentDepth d k n = n + 1 := (by unfold commentDepth; rw [if_pos (by assumption)]); exact Cut.intro _ (by assumption) (by assumption) ⟨rfl, by omega⟩ (fun p hp => hp) ⟨rfl, knows_int rfl (by omega) ⟨rfl, rfl, rfl, trivial⟩⟩)
        | (have e : commentDepth d k n = n - 1 := (by unfold commentDepth; rw [if_neg (no_true (by assumption)), if_pos (by assumption)]); exact Cut.intro _ (by assumption) (by assumption) ⟨rfl, by omega⟩ (fun p hp => hp) ⟨rfl, knows_int rfl (by omega) ⟨rfl, rfl, rfl, trivial⟩⟩)
        | (have e : commentDepth d k n = n := (by unfold commentDepth; rw [if_neg (no_true (by assumption)), if_neg (no_true (by assumption))]); exact Cut.intro _ (by assumption) (by assumption) ⟨rfl, by omega⟩ (fun p hp => hp) ⟨rfl, knows_int rfl (by omega) ⟨rfl, rfl, rfl, trivial⟩⟩)
    · rintro _ tn' u₂ h' tk' ⟨rfl, hn⟩ F' N'
      rw [if_neg (by omega)] at hp1
      dsimp only
      k_steps
      all_goals first
        | (refine hE _ ?_ _ _ _ (by assumption) (by assumption); rw [← hp1, hq])
        | (k_extra "m turn"; rw [hsp] at hp1; exact WEnd.intro (f', j', t2, acc ++ [(o, t1)], ep + 1, commentDepth d k n, tn') (by assumption) (by assumption) (fun p hp => by rw [List.mem_singleton.mp hp, ← bvals_push]; exact .tail _ (.head _)) ⟨by rw [List.map_append]; exact hp1, by dsimp only; omega, by dsimp only; omega, hn, by rw [List.length_append]; dsimp only [List.length]; omega, by rw [flat_push, Array.size_append]; dsimp only; omega⟩ (Nat.lt_succ_self _) ⟨rfl, rfl, rfl, rfl, rfl, trivial⟩)
  · refine kms_slice_lit (vl := .none) (vu := .int (-1) _) (by assumption) (by assumption) (isList_of (by assumption) (by k_mem)) IsPart.none (IsPart.int _ _) pick_init ?_ (by with_unfolding_all rfl) (by intro _; with_unfolding_all rfl) (by k_extra "m size")
    intro D h' F' N' lt
    have hz2 := flat_init acc
    k_steps
    k_extra "m out"
    rename News _ _ _ _ => N9
    refine hret _ _ ?_ _ _ _ _ _ (kept0 kb (by assumption)) (newest kb N9).1 (newest kb N9).2
    obtain ⟨f', rfl⟩ : ∃ f', f = f' + 1 := by first | exact fuel (by assumption) (by assumption) | exact fuel2 (by assumption) (by assumption) | exact ⟨f - 1, by omega⟩
    rw [← hp1, commentLoop, if_neg (by omega), flat_init_eq]
end

-- 14_atom
noncomputable def atomEnd (d : Array UInt8) : Nat → Nat → Nat
  | 0, k => k
  | n + 1, k => if k < (KBw.bInts d).length then (if isAtom ((KBw.bInts d).getD (k : Int).toNat 0) = true then atomEnd d n (k + 1) else k) else k
theorem atomEnd_le {d : Array UInt8} : ∀ {n k : Nat}, k ≤ (KBw.bInts d).length → k ≤ atomEnd d n k ∧ atomEnd d n k ≤ (KBw.bInts d).length
  | 0, k, h => ⟨Nat.le_refl _, h⟩
  | n + 1, k, h => by
    rw [atomEnd]
    split
    · split
      · have := @atomEnd_le d n (k + 1) (by omega)
        omega
      · exact ⟨Nat.le_refl _, h⟩
    · exact ⟨Nat.le_refl _, h⟩
theorem atomEnd_stop {d : Array UInt8} {n k : Nat} (h : k < (KBw.bInts d).length → ¬ isAtom ((KBw.bInts d).getD (k : Int).toNat 0) = true) : atomEnd d n k = k := by
  cases n with
  | zero => rfl
  | succ n =>
    rw [atomEnd]
    split
    · rw [if_neg (h (by assumption))]
    · rfl
section
variable {prog : Program} {w : World}
  {A : Around} {base : Heap} {fr : List Env} {s : Shared} {Q : Value → Shared → Prop} {E : Value → Shared → Prop}
theorem c_atom_at {d : Array UInt8} {t u : Tok} {k : Nat} (G : Gr w base) (B : Below A base fr s.heap) (hR : Room A 3) (hz : d.size ≤ 999) (hkz : k ≤ d.size)
  (hret : ∀ a t1 t2 h' tk', Keep s.heap h' → s.heap.get? a = none → h'.get? a = some (tupO [.bytes (cut d k (atomEnd d d.size k)) t1, .int (atomEnd d d.size k : Nat) t2]) → Q (.ref a) { s with heap := h', toks := tk' }) :
  wpAny (model prog w) A (call (.ref 97) [.bytes d t, .int k u]) Q E s := by
  k_extra "m enter"
  case kbinds => exact [("data", .bytes d t), ("at", .int k u)]
  k_extra "m pure"
  generalize hks : KBw.bInts d = ks
  have hke : (KBw.bInts d).length = d.size := KBw.ints_length d
  have hkl : ks.length ≤ 999 := by rw [← hks, hke]; exact hz
  have hkd : d.size = ks.length := by rw [← hks, hke]
  generalize hW : atomEnd d d.size k = W at hret
  k_steps
  refine Hold.go ?_
  refine while_own (σ := Nat × Nat × Tok) (fun _ => []) (fun c => [("end", .int (c.2.1 : Int) c.2.2), ("at", .int (k : Int) u), ("data", .bytes d t)]) (fun c => atomEnd d c.1 c.2.1 = W ∧ d.size ≤ c.2.1 + c.1 ∧ c.2.1 ≤ d.size) (fun c => c.1) (d.size, k, u) (by assumption) (by assumption) (fun _ h => nomatch h) ⟨hW, by omega, hkz⟩ ⟨rfl, rfl, rfl, trivial⟩ ?_ (Inside.pass IN)
  refine pr3 fun n j tj u₁ h tk => an3 fun hp1 hp2 hp3 F' N' => ?_
  dsimp only at hp1 hp2 hp3 F' N'
  (try dsimp only)
  k_steps
  · obtain ⟨n', rfl⟩ : ∃ n', n = n' + 1 := by first | exact fuel (by assumption) (by assumption) | exact fuel2 (by assumption) (by assumption) | exact ⟨n - 1, by omega⟩
    rw [atomEnd, if_pos (by rw [hks]; omega), if_pos (by rw [hks]; assumption)] at hp1
    k_extra "m turn"
    exact WEnd.intro (n', j + 1, _) (by assumption) (by assumption) (fun _ h => nomatch h) ⟨hp1, by dsimp only; omega, by dsimp only; omega⟩ (Nat.lt_succ_self _) ⟨rfl, rfl, rfl, trivial⟩
  all_goals
    rw [atomEnd_stop (by first | (intro _; rw [hks]; exact no_true (by assumption)) | (intro h9; rw [hks] at h9; omega))] at hp1
    subst hp1
    k_extra "m out"
    rename News _ _ _ _ => N9
    exact hret _ _ _ _ _ (kept0 kb (by assumption)) (newest kb N9).1 (newest kb N9).2
end
theorem setup_atom : True := by
  k_with "m call" => ((with_reducible show wpAny _ _ (call (Value.ref 97) _ _) _ _ _); k_extra "m names"; refine c_atom_at G (Inside.below IN kF) (Room.less hR' (by k_extra "m om")) (by k_extra "m om") (by k_extra "m om") ?_; intro a' t1' t2' h' tk' kk' hn ho; dsimp only at kk' hn; have N' := News.add kF kN kk' hn ho; have F' := Fr.keepAll kF kk'; have ne' := News.ne kN hn; simp only [AllNe, and_true] at ne'; clear kF kN hn ho kk'; (try dsimp only))
  k_with "m call" => ((with_reducible show wpAny _ _ (call (Value.ref 111) _ _) _ _ _); k_extra "m names"; refine c_past_white (k := 0) G (Inside.below IN kF) (Room.less hR' (by k_extra "m om")) (by k_extra "m om") (by k_extra "m om") ?_; intro tk' h' tk2' kk'; k_extra "m after")
  k_with "m call" => ((with_reducible show wpAny _ _ (call (Value.ref 111) _ _) _ _ _); k_extra "m names"; refine c_past_white G (Inside.below IN kF) (Room.less hR' (by k_extra "m om")) (by k_extra "m om") (by k_extra "m om") ?_; intro tk' h' tk2' kk'; k_extra "m after")
  k_with "m call" => ((with_reducible show wpAny _ _ (call (Value.ref 83) _ _) _ _ _); k_extra "m names"; refine c_closed_at G (Inside.below IN kF) (Room.less hR' (by k_extra "m om")) (by k_extra "m om") (by k_extra "m om") rfl ?_ ?_; rotate_left 1; (intro q hq e' h' tk' x' u'; k_extra "m he"); rotate_right 1; (intro o j hsp a' t1' t2' h' tk' kk' hn ho; dsimp only at kk' hn; have N' := News.add kF kN kk' hn ho; have F' := Fr.keepAll kF kk'; have ne' := News.ne kN hn; simp only [AllNe, and_true] at ne'; clear kF kN hn ho kk'; (try dsimp only)))
  k_with "m call" => ((with_reducible show wpAny _ _ (call (Value.ref 90) _ _) _ _ _); k_extra "m names"; refine c_comment_at G (Inside.below IN kF) (Room.less hR' (by k_extra "m om")) (by k_extra "m om") (by k_extra "m om") ?_ ?_; rotate_left 1; (intro q hq e' h' tk' x' u'; k_extra "m he"); rotate_right 1; (intro o j hsp a' t1' t2' h' tk' kk' hn ho; dsimp only at kk' hn; have N' := News.add kF kN kk' hn ho; have F' := Fr.keepAll kF kk'; have ne' := News.ne kN hn; simp only [AllNe, and_true] at ne'; clear kF kN hn ho kk'; (try dsimp only)))
  trivial

-- 15_token
theorem News.cons2 {g h : Heap} {L a b : Addr} {o o' : Obj} {nx : List (Addr × Obj)} (N : News g L h ((b, o') :: nx)) (N1 : News g L h ((a, o) :: nx)) : News g L h ((a, o) :: (b, o') :: nx) := fun q hq => by
  rcases List.mem_cons.mp hq with rfl | hq
  · exact N1 _ (.head _)
  · exact N q hq
inductive Kd where
  | quoted | literal | comment | sign | atom
  deriving DecidableEq
noncomputable def Kd.str : Kd → Str
  | .quoted => "quoted"
  | .literal => "literal"
  | .comment => "comment"
  | .sign => "sign"
  | .atom => "atom"
structure Tk where
  kind : Kd
  worth : Array UInt8
  place : Nat
noncomputable abbrev tokO (t : Tk) (u1 u2 u3 : Tok) : Obj := tupO [.str t.kind.str u1, .bytes t.worth u2, .int (t.place : Int) u3]
noncomputable def oneAt (d : Array UInt8) (k : Nat) (x : Array UInt8) : Bool := (KBy.picked d (some (k : Int)) (some ((k : Int) + 1))).toList == x.toList
noncomputable def tokenAt (d : Array UInt8) (k : Nat) : Except Int (Tk × Nat) :=
  if oneAt d k #[34] = true then (match closedAt d k #[34] #[] with | .error q => .error q | .ok (o, j) => .ok (⟨.quoted, o, k⟩, j + 1))
  else if oneAt d k #[91] = true then (match closedAt d k #[93] #[91] with | .error q => .error q | .ok (o, j) => .ok (⟨.literal, o, k⟩, j + 1))
  else if oneAt d k #[40] = true then (match commentAt d k with | .error q => .error q | .ok (o, j) => .ok (⟨.comment, o, k⟩, j))
  else if within (KBy.picked d (some (k : Int)) (some ((k : Int) + 1))) #[60, 62, 64, 44, 59, 58, 46, 92] = true then .ok (⟨.sign, KBy.picked d (some (k : Int)) (some ((k : Int) + 1)), k⟩, k + 1)
  else if isAtom ((KBw.bInts d).getD (k : Int).toNat 0) = true then .ok (⟨.atom, cut d k (atomEnd d d.size k), k⟩, atomEnd d d.size k)
  else .error k
section
variable {prog : Program} {w : World}
  {A : Around} {base : Heap} {fr : List Env} {s : Shared} {Q : Value → Shared → Prop} {E : Value → Shared → Prop}
theorem c_token_at {d : Array UInt8} {t u : Tok} {k : Nat} (G : Gr w base) (B : Below A base fr s.heap) (hR : Room A 6) (hz : d.size ≤ 999) (hkz : k < d.size)
  (hret : ∀ T j, tokenAt d k = .ok (T, j) → ∀ a b t1 t2 t3 t4 h' tk', Keep s.heap h' → s.heap.get? a = none → s.heap.get? b = none → h'.get? a = some (tupO [.ref b, .int (j : Nat) t1]) → h'.get? b = some (tokO T t2 t3 t4) → Q (.ref a) { s with heap := h', toks := tk' })
  (hE : ∀ q, tokenAt d k = .error q → ∀ e h' tk', Fly base fr e q .none h' → UpBut [] s.heap h' → E (.ref e) { s with heap := h', toks := tk' }) :
  wpAny (model prog w) A (call (.ref 104) [.bytes d t, .int k u]) Q E s := by
  k_extra "m enter"
  case kbinds => exact [("data", .bytes d t), ("at", .int k u)]
  k_extra "m pure"
  generalize hks : KBw.bInts d = ks
  have hke : (KBw.bInts d).length = d.size := KBw.ints_length d
  have hkl : ks.length ≤ 999 := by rw [← hks, hke]; exact hz
  have hkd : d.size = ks.length := by rw [← hks, hke]
  k_steps
  · k_extra "m out"
    rename News _ _ _ _ => N9
    refine hret ⟨.quoted, o, k⟩ (j + 1) ?_ _ _ _ _ _ _ _ _ (kept0 kb (by assumption)) (newest kb N9).1 (fresh0 kb N9 (.tail _ (.head _)) (by simp)) (newest kb N9).2 (N9 _ (.tail _ (.head _))).1
    rw [tokenAt, if_pos (by assumption), hsp]
  · refine hE _ ?_ _ _ _ (by assumption) (by assumption)
    rw [tokenAt, if_pos (by assumption), hq]
  · k_extra "m out"
    rename News _ _ _ _ => N9
    refine hret ⟨.literal, o, k⟩ (j + 1) ?_ _ _ _ _ _ _ _ _ (kept0 kb (by assumption)) (newest kb N9).1 (fresh0 kb N9 (.tail _ (.head _)) (by simp)) (newest kb N9).2 (N9 _ (.tail _ (.head _))).1
    rw [tokenAt, if_neg (no_true (by assumption)), if_pos (by assumption), hsp]
  · refine hE _ ?_ _ _ _ (by assumption) (by assumption)
    rw [tokenAt, if_neg (no_true (by assumption)), if_pos (by assumption), hq]
  · k_extra "m out"
    rename News _ _ _ _ => N9
    refine hret ⟨.comment, o, k⟩ j ?_ _ _ _ _ _ _ _ _ (kept0 kb (by assumption)) (newest kb N9).1 (fresh0 kb N9 (.tail _ (.head _)) (by simp)) (newest kb N9).2 (N9 _ (.tail _ (.head _))).1
    rw [tokenAt, if_neg (no_true (by assumption)), if_neg (no_true (by assumption)), if_pos (by assumption), hsp]
  · refine hE _ ?_ _ _ _ (by assumption) (by assumption)
    rw [tokenAt, if_neg (no_true (by assumption)), if_neg (no_true (by assumption)), if_pos (by assumption), hq]
  · k_extra "m out"
    rename News _ _ _ _ => N9
    refine hret ⟨.sign, KBy.picked d (some (k : Int)) (some ((k : Int) + 1)), k⟩ (k + 1) ?_ _ _ _ _ _ _ _ _ (kept0 kb (by assumption)) (newest kb N9).1 (fresh0 kb N9 (.tail _ (.head _)) (by simp)) (newest kb N9).2 (N9 _ (.tail _ (.head _))).1
    rw [tokenAt, if_neg (no_true (by assumption)), if_neg (no_true (by assumption)), if_neg (no_true (by assumption)), if_pos (by assumption)]
  · k_extra "m out"
    rename News _ _ _ _ => N9
    refine hret ⟨.atom, cut d k (atomEnd d d.size k), k⟩ (atomEnd d d.size k) ?_ _ _ _ _ _ _ _ _ (kept0 kb (by assumption)) (newest kb N9).1 (fresh0 kb N9 (.tail _ (.head _)) (by simp)) (newest kb N9).2 (N9 _ (.tail _ (.head _))).1
    rw [tokenAt, if_neg (no_true (by assumption)), if_neg (no_true (by assumption)), if_neg (no_true (by assumption)), if_neg (no_true (by assumption)), if_pos (by rw [hks]; assumption)]
  · k_extra "m raised"
    refine hE _ ?_ _ _ _ x₂ (UpBut.of (kept kb (by assumption)) u₂)
    rw [tokenAt, if_neg (no_true (by assumption)), if_neg (no_true (by assumption)), if_neg (no_true (by assumption)), if_neg (no_true (by assumption)), if_neg (by rw [hks]; exact no_true (by assumption))]
end
theorem picked_one {d x : Array UInt8} {k : Nat} (hx : x.size = 1) (h : ¬ ((KBy.picked d (some (k : Int)) (some ((k : Int) + 1))).toList != x.toList) = true) : k < d.size := by
  have e : (KBy.picked d (some (k : Int)) (some ((k : Int) + 1))).toList = x.toList := by simpa using h
  have := congrArg List.length e
  rw [show ((k : Int) + 1) = ((k + 1 : Nat) : Int) from rfl, picked_len] at this
  simp at this
  omega
theorem closedLoop_bound {d cl br : Array UInt8} {b : Nat} (hcl : cl.size = 1) : ∀ {n k : Nat} {acc o : Array UInt8} {j : Nat}, closedLoop d b cl br n k acc = .ok (o, j) → acc.size ≤ k → k ≤ j ∧ j < d.size ∧ o.size ≤ j
  | 0, _, _, _, _, h, _ => by rw [closedLoop] at h; cases h
  | n + 1, k, acc, o, j, h, ha => by
    rw [closedLoop] at h
    generalize (if (k : Int) < ((KBw.bInts d).length : Int) then br.contains ((KBw.bInts d).getD (k : Int).toNat 0).toNat.toUInt8 else false) = c at h
    split at h
    · split at h
      · cases h
      · split at h
        · cases h
        · rename_i o' j' e
          obtain ⟨j', rfl, hj⟩ := inside_nat e
          have := closedLoop_bound hcl h (by rw [Array.size_append]; simp only [Int.toNat_natCast]; omega)
          simp only [Int.toNat_natCast] at this
          omega
    · rename_i q
      cases h
      exact ⟨Nat.le_refl _, picked_one hcl q, ha⟩
theorem joined_push (xs : List (Array UInt8)) (o : Array UInt8) : joined (xs ++ [o]) = joined xs ++ o := by simp [joined]
theorem joined_init (xs : List (Array UInt8)) : (joined xs.dropLast).size ≤ (joined xs).size := by
  rcases List.eq_nil_or_concat xs with rfl | ⟨ys, o, rfl⟩
  · exact Nat.le_refl _
  · rw [List.concat_eq_append, List.dropLast_concat, joined_push, Array.size_append]; omega
theorem commentLoop_bound {d : Array UInt8} {b : Nat} : ∀ {f n k : Nat} {xs : List (Array UInt8)} {o : Array UInt8} {j : Nat}, commentLoop d b f n k xs = .ok (o, j) → (joined xs).size ≤ k → k ≤ d.size → k ≤ j ∧ j ≤ d.size ∧ o.size ≤ j
  | 0, _, _, _, _, _, h, _, _ => by rw [commentLoop] at h; cases h
  | f + 1, n, k, xs, o, j, h, ha, hk => by
    rw [commentLoop] at h
    split at h
    · split at h
      · cases h
      · split at h
        · cases h
        · rename_i o' j' e
          obtain ⟨j', rfl, hj⟩ := inside_nat e
          rw [KBw.ints_length] at hj
          have := commentLoop_bound h (by rw [joined_push, Array.size_append]; simp only [Int.toNat_natCast]; omega) (by simp only [Int.toNat_natCast]; omega)
          simp only [Int.toNat_natCast] at this
          omega
    · cases h
      have := joined_init xs
      exact ⟨Nat.le_refl _, hk, by omega⟩
theorem cut_size (d : Array UInt8) (i j : Nat) : (cut d i j).size ≤ d.size := by
  rw [← Array.length_toList, picked_len]; omega
theorem tokenAt_bound {d : Array UInt8} {k : Nat} {T : Tk} {j : Nat} (h : tokenAt d k = .ok (T, j)) (hk : k < d.size) : k < j ∧ j ≤ d.size ∧ T.worth.size ≤ d.size ∧ T.place = k := by
  unfold tokenAt at h
  split at h
  · split at h
    · cases h
    · rename_i e
      cases h
      have := closedLoop_bound rfl e (by simp)
      dsimp only
      omega
  · split at h
    · split at h
      · cases h
      · rename_i e
        cases h
        have := closedLoop_bound rfl e (by simp)
        dsimp only
        omega
    · split at h
      · split at h
        · cases h
        · rename_i e
          cases h
          have := commentLoop_bound e (by simp [joined]) (by omega)
          dsimp only
          omega
      · split at h
        · cases h
          exact ⟨by omega, by omega, cut_size d k (k + 1), rfl⟩
        · split at h
          · cases h
            rename_i ha
            obtain ⟨n, hn⟩ : ∃ n, d.size = n + 1 := ⟨d.size - 1, by omega⟩
            have e : atomEnd d d.size k = atomEnd d n (k + 1) := by
              rw [show atomEnd d d.size k = atomEnd d (n + 1) k from by rw [← hn], atomEnd, if_pos (by rw [KBw.ints_length]; exact hk), if_pos ha]
            have := @atomEnd_le d n (k + 1) (by rw [KBw.ints_length]; omega)
            rw [KBw.ints_length] at this
            exact ⟨by omega, by omega, cut_size d k _, rfl⟩
          · cases h
theorem setup_token : True := by
  k_with "m call" => ((with_reducible show wpAny _ _ (call (Value.ref 104) _ _) _ _ _); k_extra "m names"; refine c_token_at G (Inside.below IN kF) (Room.less hR' (by k_extra "m om")) (by k_extra "m om") (by k_extra "m om") ?_ ?_; rotate_left 1; (intro q hq e' h' tk' x' u'; k_extra "m he"); rotate_right 1; (intro tk9 j hsp a' b' t1' t2' t3' t4' h' tk' kk' hna hnb hoa hob; have hb9 := tokenAt_bound hsp (by k_extra "m om"); dsimp only at kk' hna hnb; have N1 := News.add kF kN kk' hna hoa; have N' := News.add kF kN kk' hnb hob; replace N' := News.cons2 N' N1; have F' := Fr.keepAll kF kk'; have ne' := News.ne kN hna; have ne'' := News.ne kN hnb; simp only [AllNe, and_true] at ne' ne''; clear kF kN hna hnb hoa hob kk' N1; (try dsimp only)))
  trivial

-- 16_tokens
noncomputable def tokensLoop (d : Array UInt8) : Nat → Nat → List Tk → Except Int (List Tk)
  | 0, _, _ => .error (-1)
  | n + 1, k, acc => if k < d.size then (match tokenAt d k with
    | .error q => .error q
    | .ok (t, j) => tokensLoop d n (pastWhite d d.size j) (acc ++ [t])) else .ok acc
noncomputable def tokensOf (d : Array UInt8) : Except Int (List Tk) := tokensLoop d (d.size + 1) (pastWhite d d.size 0) []
structure TkA where
  addr : Addr
  tk : Tk
  u1 : Tok
  u2 : Tok
  u3 : Tok
noncomputable def ledT (xs : List TkA) : List (Addr × Obj) := xs.map fun x => (x.addr, tokO x.tk x.u1 x.u2 x.u3)
noncomputable def refsT (xs : List TkA) : List Value := xs.map fun x => .ref x.addr
/-- new and standing -/
noncomputable def NewIn (h h' : Heap) (l : List (Addr × Obj)) : Prop := ∀ q ∈ l, h.get? q.1 = none ∧ h'.get? q.1 = some q.2
theorem NewIn.of {g h h' : Heap} {L : Addr} {nx l : List (Addr × Obj)} (kb : KeepBut [] h g) (N : News g L h' nx) (hl : ∀ q ∈ l, q ∈ nx) : NewIn h h' l := fun q hq =>
  ⟨fresh0 kb N (hl q hq) (by simp), (N q (hl q hq)).1⟩
theorem News.plus {g h h' : Heap} {L : Addr} {nx D : List (Addr × Obj)} {m : Str → Option Value} (F : Fr g L h m) (N : News g L h nx) (k : Keep h h') (n : NewIn h h' D) : News g L h' (nx ++ D) := fun q hq => by
  rcases List.mem_append.mp hq with hq | hq
  · exact ⟨k _ _ (N q hq).1, (N q hq).2⟩
  · exact News.add F N k (n q hq).1 (n q hq).2 q (.head _)
theorem NewIn.off {g h h' : Heap} {L a : Addr} {o : Obj} {nx D : List (Addr × Obj)} (N : News g L h nx) (n : NewIn h h' D) (hm : (a, o) ∈ nx) : ∀ p ∈ D, p.1 ≠ a := fun p hp e => by
  have := (N _ hm).1
  dsimp only at this
  rw [← e, (n p hp).1] at this
  cases this
theorem refsT_push {xs : List TkA} {x : TkA} : (refsT xs).toArray.push (.ref x.addr) = (refsT (xs ++ [x])).toArray := by simp [refsT]
theorem refsT_size {xs : List TkA} (h : xs.length ≤ 100000) : (refsT xs).toArray.size ≤ sizeLine := by simp [refsT, sizeLine_eq]; omega
theorem ledT_push {xs : List TkA} {x : TkA} : ledT (xs ++ [x]) = ledT xs ++ [(x.addr, tokO x.tk x.u1 x.u2 x.u3)] := by simp [ledT]
theorem setup_toks : True := by
  k_with "m size" => ((with_reducible refine refsT_size ?_); k_extra "m om")
  trivial
section
local macro_rules | `(tactic| k_all) => `(tactic| assumption)
variable {prog : Program} {w : World}
  {A : Around} {base : Heap} {fr : List Env} {s : Shared} {Q : Value → Shared → Prop} {E : Value → Shared → Prop}
theorem c_tokens_of {d : Array UInt8} {t : Tok} (G : Gr w base) (B : Below A base fr s.heap) (hR : Room A 7) (hz : d.size ≤ 999)
  (hret : ∀ (l : Addr) (xs : List TkA) (ep : Nat) (h' : Heap) (tk' : Nat), tokensOf d = .ok (xs.map (·.tk)) → xs.length ≤ d.size → (∀ x ∈ xs, x.tk.worth.size ≤ d.size ∧ x.tk.place ≤ d.size) → Keep s.heap h' → NewIn s.heap h' ((l, listOf (refsT xs).toArray ep) :: ledT xs) → (∀ p ∈ ledT xs, p.1 ≠ l) → Q (.ref l) { s with heap := h', toks := tk' })
  (hE : ∀ q, tokensOf d = .error q → ∀ e h' tk', Fly base fr e q .none h' → UpBut [] s.heap h' → E (.ref e) { s with heap := h', toks := tk' }) :
  wpAny (model prog w) A (call (.ref 118) [.bytes d t]) Q E s := by
  k_extra "m enter"
  case kbinds => exact [("octets", .bytes d t)]
  k_extra "m pure"
  generalize hks : KBw.bInts d = ks
  have hke : (KBw.bInts d).length = d.size := KBw.ints_length d
  have hkl : ks.length ≤ 999 := by rw [← hks, hke]; exact hz
  have hkd : d.size = ks.length := by rw [← hks, hke]
  have hw0 := @pastWhite_le d d.size 0 (by omega)
  rw [hke] at hw0
  generalize hW : tokensOf d = W at hret hE
  unfold tokensOf at hW
  k_steps
  refine Hold.go ?_
  refine while_own (σ := Nat × Nat × Tok × List TkA × Nat) (fun c => (l', PySem.W.listOf (refsT c.2.2.2.1).toArray c.2.2.2.2) :: ledT c.2.2.2.1) (fun c => [("at", .int (c.2.1 : Int) c.2.2.1), ("found", .ref l'), ("octets", .bytes d t)])
    (fun c => tokensLoop d c.1 c.2.1 (c.2.2.2.1.map (·.tk)) = W ∧ c.2.1 ≤ d.size ∧ d.size < c.2.1 + c.1 ∧ c.2.2.2.1.length ≤ c.2.1 ∧ (∀ x ∈ c.2.2.2.1, x.tk.worth.size ≤ d.size ∧ x.tk.place ≤ d.size) ∧ (∀ p ∈ ledT c.2.2.2.1, p.1 ≠ l')) (fun c => c.1) (d.size + 1, pastWhite d d.size 0, _, [], 0)
    (by assumption) (by assumption) (fun p hp => hp) ⟨hW, by dsimp only; omega, by dsimp only; omega, Nat.zero_le _, fun _ h => (nomatch h), fun _ h => (nomatch h)⟩ ⟨rfl, rfl, rfl, trivial⟩ ?_ (Inside.pass IN)
  refine pr5 fun f k tka acc ep u₁ h tk2 => an6 fun hp1 hp2 hp3 hp4 hp5 hp6 F' N' => ?_
  dsimp only at hp1 hp2 hp3 hp4 hp5 hp6 F' N'
  (try dsimp only)
  k_steps
  · obtain ⟨f', rfl⟩ : ∃ f', f = f' + 1 := by first | exact fuel (by assumption) (by assumption) | exact fuel2 (by assumption) (by assumption) | exact ⟨f - 1, by omega⟩
    rw [tokensLoop, if_pos (by omega), hsp] at hp1
    have hw := @pastWhite_le d d.size j (by omega)
    rw [hke] at hw
    k_extra "m turn"
    exact WEnd.intro (f', pastWhite d d.size j, _, acc ++ [⟨b', tk9, t2', t3', t4'⟩], ep + 1) (by assumption) (by assumption) (fun p hp => by
        dsimp only at hp
        rw [← refsT_push, ledT_push] at hp
        rcases List.mem_cons.mp hp with rfl | hp
        · exact .tail _ (.tail _ (.head _))
        · rcases List.mem_append.mp hp with hp | hp
          · exact .tail _ (.tail _ (.tail _ hp))
          · rw [List.mem_singleton.mp hp]; exact .tail _ (.head _))
      ⟨by rw [List.map_append]; exact hp1, by dsimp only; omega, by dsimp only; omega, by rw [List.length_append]; dsimp only [List.length]; omega, fun x hx => by
        rcases List.mem_append.mp hx with hx | hx
        · exact hp5 x hx
        · rw [List.mem_singleton.mp hx]; dsimp only; omega, fun x hx => by
        dsimp only at hx
        rw [ledT_push] at hx
        rcases List.mem_append.mp hx with hx | hx
        · exact hp6 x hx
        · rw [List.mem_singleton.mp hx]; exact fun e => ne''.1 e.symm⟩ (Nat.lt_succ_self _) ⟨rfl, rfl, rfl, trivial⟩
  · refine hE _ ?_ _ _ _ (by assumption) (by assumption)
    obtain ⟨f', rfl⟩ : ∃ f', f = f' + 1 := by first | exact fuel (by assumption) (by assumption) | exact fuel2 (by assumption) (by assumption) | exact ⟨f - 1, by omega⟩
    rw [← hp1, tokensLoop, if_pos (by omega), hq]
  · k_extra "m out"
    obtain ⟨f', rfl⟩ : ∃ f', f = f' + 1 := by first | exact fuel (by assumption) (by assumption) | exact fuel2 (by assumption) (by assumption) | exact ⟨f - 1, by omega⟩
    rw [tokensLoop, if_neg (by omega)] at hp1
    rename News _ _ _ _ => N9
    exact hret _ acc _ _ _ hp1.symm (by omega) hp5 (kept0 kb (by assumption)) (NewIn.of kb N9 fun q hq => hq) hp6
end
theorem setup_toks2 : True := by
  k_with "m call" => ((with_reducible show wpAny _ _ (call (Value.ref 118) _ _) _ _ _); k_extra "m names"; refine c_tokens_of G (Inside.below IN kF) (Room.less hR' (by k_extra "m om")) (by k_extra "m om") ?_ ?_; rotate_left 1; (intro q hq e' h' tk' x' u'; k_extra "m he"); rotate_right 1; (intro l9 xs9 n9 h' tk' hsp hxl hxb kk' hnew hoff; dsimp only at kk' hnew; have N' := News.plus kF kN kk' hnew; have F' := Fr.keepAll kF kk'; (try simp only [List.nil_append, List.cons_append] at N'); clear kF kN kk'; (try dsimp only)))
  k_with "m size" => ((with_reducible refine refsT_size ?_); k_extra "m om")
  trivial

-- 17_comp
section
open LCt LCg
theorem rest_T {α : Type} {prog : Program} {w : World} {A : Around} {s : Shared} {h₀ : Heap} {L : Addr} {m : Str → Option Value} {env : Env} {ct elt : PySem.Expr} {x : Str} {scope : Scope} {cl : List (Str × Addr)} {S : List (Addr × Obj) → Prop}
    {Fin : List Value → List (Addr × Obj) → Prop} {nw : List (Addr × Obj)} (val el : α → Value) (p : α → Bool) (items : List α)
    (stepT : ∀ a ∈ items, ∀ I oI C oC D oD m₂ h tk (E' : Value → Shared → Prop), NsObj oC m₂ → m₂ x = some (val a) → Fr h₀ L h m → News h₀ L h ((I, oI) :: (C, oC) :: (D, oD) :: nw) →
      wpAny (model prog w) A (isTrue ct (compEnvC scope cl C env) (eval ct (compEnvC scope cl C env))) (fun ok s' => ok = p a ∧ ∃ h' tk', s' = { s with heap := h', toks := tk' } ∧ Fr h₀ L h' m ∧ News h₀ L h' ((I, oI) :: (C, oC) :: (D, oD) :: nw)) E' { s with heap := h, toks := tk })
    (stepE : ∀ a ∈ items, ∀ I oI C oC D oD m₂ h tk (E' : Value → Shared → Prop), NsObj oC m₂ → m₂ x = some (val a) → Fr h₀ L h m → News h₀ L h ((I, oI) :: (C, oC) :: (D, oD) :: nw) →
      wpAny (model prog w) A (eval elt (compEnvC scope cl C env)) (fun y s' => y = el a ∧ ∃ h' tk', s' = { s with heap := h', toks := tk' } ∧ Fr h₀ L h' m ∧ News h₀ L h' ((I, oI) :: (C, oC) :: (D, oD) :: nw)) E' { s with heap := h, toks := tk })
    (hS : S nw) (fin : Fin ((items.filter p).map el) nw) :
    CompRestT prog w A h₀ L m env ct elt x scope cl s S (fun i v => (items.map val).toArray[i]? = some v) Fin (items.map val).toArray.size 0 [] nw := by
  rw [List.size_toArray, List.length_map]
  have go : ∀ (rest pre : List α), items = pre ++ rest → CompRestT prog w A h₀ L m env ct elt x scope cl s S (fun i v => (items.map val).toArray[i]? = some v) Fin rest.length pre.length ((pre.filter p).map el) nw := by
    intro rest
    induction rest with
    | nil => intro pre e; rw [List.append_nil] at e; subst e; exact fin
    | cons a r ih =>
      intro pre e
      refine CompRestT.succ fun v I oI C oC D m₂ h tk E' hv hC hx F N off ne => ?_
      have ha : a ∈ items := by rw [e]; simp
      have hva : v = val a := by
        have : (items.map val).toArray[pre.length]? = some v := hv
        rw [List.getElem?_toArray, e] at this
        simpa using this.symm
      subst hva
      refine wpAny_mono (stepT a ha I oI C oC D _ m₂ h tk E' hC hx F N) (fun ok s' q => ?_) fun _ _ z => z
      obtain ⟨rfl, h', tk', rfl, F', N'⟩ := q
      have ih' := ih (pre ++ [a]) (by rw [e]; simp)
      rw [List.length_append, List.filter_append, List.map_append] at ih'
      cases hp : p a with
      | true =>
        simp only [if_true]
        refine wpAny_mono (stepE a ha I oI C oC D _ m₂ h' tk' E' hC hx F' N') (fun y s'' q => ?_) fun _ _ z => z
        obtain ⟨rfl, h'', tk'', rfl, F'', N''⟩ := q
        refine ⟨h'', tk'', nw, rfl, F'', N'', off, hS, ?_⟩
        simpa [hp] using ih'
      | false =>
        simp only [Bool.false_eq_true, if_false]
        refine ⟨h', tk', nw, rfl, F', N', off, hS, ?_⟩
        simpa [hp] using ih'
  exact go items [] rfl
end
theorem tok_tup {h : Heap} {x : TkA} (e : h.get? x.addr = some (tokO x.tk x.u1 x.u2 x.u3)) : IsTup h x.addr #[.str x.tk.kind.str x.u1, .bytes x.tk.worth x.u2, .int (x.tk.place : Int) x.u3] := ⟨_, e, rfl, _, rfl⟩
structure TokL (h : Heap) (l : Addr) (xs : List TkA) : Prop where
  list : h.IsList l (refsT xs).toArray
  tok : ∀ x ∈ xs, h.get? x.addr = some (tokO x.tk x.u1 x.u2 x.u3)
theorem TokL.keep {h h' : Heap} {l : Addr} {xs : List TkA} (T : TokL h l xs) (k : Keep h h') : TokL h' l xs := by
  obtain ⟨⟨o, e, r⟩, t⟩ := T
  exact ⟨⟨o, k _ _ e, r⟩, fun x hx => k _ _ (t x hx)⟩
theorem kd_ne (k : Kd) : (k.str != Str.ofString "comment") = (k != .comment) := by cases k <;> decide +kernel
theorem len_bvals {prog : Program} {w : World} {A : Around} {E : Value → Shared → Prop} {s : Shared} {l : Addr} {xs : List (Array UInt8 × Tok)} {Q : Value → Shared → Prop} (hl : s.heap.IsList l (bvals xs).toArray) (h : xs.length ≤ 100000)
    (hQ : ∀ t tk, Q (.int (xs.length : Int) t) { s with toks := tk }) : wpAny (model prog w) A (call (.builtin "len") [.ref l]) Q E s := by
  have e : (bvals xs).toArray.size = xs.length := by simp [bvals]
  refine len_list hl (by rw [e]; omega) ?_
  rw [e]
  exact hQ _ _
theorem len_refsT {prog : Program} {w : World} {A : Around} {E : Value → Shared → Prop} {s : Shared} {l : Addr} {xs : List TkA} {Q : Value → Shared → Prop} (hl : s.heap.IsList l (refsT xs).toArray) (h : xs.length ≤ 100000)
    (hQ : ∀ t tk, Q (.int (xs.length : Int) t) { s with toks := tk }) : wpAny (model prog w) A (call (.builtin "len") [.ref l]) Q E s := by
  have e : (refsT xs).toArray.size = xs.length := by simp [refsT]
  refine len_list hl (by rw [e]; omega) ?_
  rw [e]
  exact hQ _ _
theorem TokL.news {g h : Heap} {L l : Addr} {xs : List TkA} {n : Nat} {nx : List (Addr × Obj)} (N : News g L h nx) (hm : (l, listOf (refsT xs).toArray n) ∈ nx) (hs : ∀ q ∈ ledT xs, q ∈ nx) : TokL h l xs :=
  ⟨⟨_, (N _ hm).1, rfl, n, rfl⟩, fun x hx => (N _ (hs _ (List.mem_map.mpr ⟨x, hx, rfl⟩))).1⟩
noncomputable def notComment (x : TkA) : Bool := x.tk.kind != .comment
theorem TokL.filter {h : Heap} {l D : Addr} {xs : List TkA} {n : Nat} {p : TkA → Bool} (T : TokL h l xs) (hD : h.get? D = some (listOf (refsT (xs.filter p)).toArray n)) : TokL h D (xs.filter p) :=
  ⟨⟨_, hD, rfl, n, rfl⟩, fun x hx => T.tok x (List.mem_filter.mp hx).1⟩
section
variable {prog : Program} {w : World}
  {A : Around} {base : Heap} {fr : List Env} {s : Shared} {Q : Value → Shared → Prop} {E : Value → Shared → Prop}
theorem c_without {l : Addr} {xs : List TkA} (G : Gr w base) (B : Below A base fr s.heap) (hR : Room A 3) (T : TokL s.heap l xs) (hx : xs.length ≤ 999)
  (hret : ∀ D n h' tk', Keep s.heap h' → s.heap.get? D = none → h'.get? D = some (listOf (refsT (xs.filter notComment)).toArray n) → Q (.ref D) { s with heap := h', toks := tk' }) :
  wpAny (model prog w) A (call (.ref 123) [.ref l]) Q E s := by
  k_extra "m enter"
  case kbinds => exact [("tokens", .ref l)]
  k_extra "m pure"
  have T' := T.keep (fun b o e => kb b o (by simp) e)
  have stop : StopComp := ⟨rfl⟩
  k_steps
  refine Hold.go ?_
  refine LCt.ListComp_T (F₀ := by k_asm) (by with_unfolding_all rfl) (by decide) (by rfl) (by decide) (by rfl) ?_
  k_steps
  refine Hold.go (LCt.CompSrcT.base rfl (by assumption) (by assumption) T'.list (refsT_size (by omega)) ?_)
  intro g'
  refine rest_T (fun x : TkA => .ref x.addr) (fun x => .ref x.addr) notComment xs ?_ ?_ (.inl T'.list) ?_
  · intro a ha I oI C oC D oD m₂ h tk E'' hC hx F N
    have hT := tok_tup (T'.tok a ha)
    (try dsimp only)
    k_steps
    · exact kd_ne a.tk.kind
    · exact F
    · exact N
  · intro a ha I oI C oC D oD m₂ h tk E'' hC hx F N
    (try dsimp only)
    k_steps
    · exact F
    · exact N
  · unfold LCg.FinE
    intro D h tk F N off
    dsimp only
    k_extra "m out"
    exact hret D (refsT (xs.filter notComment)).length h tk (kept0 kb F) (newest kb N).1 (newest kb N).2
end
theorem setup_comp : True := by
  k_with "m len" => ((with_reducible show wpAny _ _ (call (Value.builtin _) [Value.ref _]) _ _ _); k_extra "m names"; first | (k_dflt (refine len_bvals (isList_of kN (by k_mem)) (by k_extra "m om") ?_)) | (k_dflt (refine len_refsT (TokL.keep (by assumption) (Fr.keep kF)).list (by k_extra "m om") ?_)); intro t9' tk9'; (try dsimp only))
  k_with "m sub" => (intro q9 hq9; repeat (first | exact hq9 | exact List.mem_append_left _ hq9 | refine List.Mem.tail _ ?_))
  k_with "m toks" => (refine TokL.news kN (by k_mem) (by k_extra "m sub"))
  k_with "m toks" => (exact TokL.keep (by assumption) (Fr.keep kF))
  k_with "m call" => ((with_reducible show wpAny _ _ (call (Value.ref 123) _ _) _ _ _); k_extra "m names"; k_dflt (refine' c_without G (Inside.below IN kF) (Room.less hR' (by k_extra "m om")) ?kT ?kx ?_); (case kT => k_extra "m toks"); (case kx => k_extra "m om"); intro D9 n9 h' tk' kk' hn ho; dsimp only at kk' hn; have N' := News.add kF kN kk' hn ho; have F' := Fr.keepAll kF kk'; have ne' := News.ne kN hn; simp only [AllNe, and_true] at ne'; clear kF kN hn ho kk'; (try dsimp only))
  trivial

-- 18_text
section
open LCg
variable {prog : Program} {w : World} {A : Around} {E : Value → Shared → Prop} {s : Shared} {h₀ : Heap} {L : Addr} {m : Str → Option Value} {env : Env}
/-- the source of a comprehension is bytes -/
noncomputable def SrcB (prog : Program) (w : World) (A : Around) (h₀ : Heap) (L : Addr) (m : Str → Option Value) (env : Env) (elt : PySem.Expr) (x : Str) (scope : Scope) (cl : List (Str × Addr)) (Fin : Shared → List Value → List (Addr × Obj) → Prop) (xv : Value) (s₁ : Shared) : Prop :=
  ∃ b t news, xv = .bytes b t ∧ A.handled = none ∧ Fr h₀ L s₁.heap m ∧ News h₀ L s₁.heap news ∧ b.size ≤ sizeLine ∧
    ∀ s₂ : Shared, (∃ h, s₂ = { s₁ with heap := h }) → CompRest prog w A h₀ L m env elt x scope cl s₂ (fun _ => True) (fun i v => ∃ c u, b[i]? = some c ∧ v = .int (c.toNat : Int) u) (Fin s₂) b.size 0 [] news
theorem SrcB.mk {elt : PySem.Expr} {x : Str} {scope : Scope} {cl : List (Str × Addr)} {Fin : Shared → List Value → List (Addr × Obj) → Prop} {b : Array UInt8} {t : Tok} {news : List (Addr × Obj)} {s₁ : Shared}
    (hh : A.handled = none) (F : Fr h₀ L s₁.heap m) (N : News h₀ L s₁.heap news) (hsz : b.size ≤ sizeLine)
    (h : ∀ g, CompRest prog w A h₀ L m env elt x scope cl { s₁ with heap := g } (fun _ => True) (fun i v => ∃ c u, b[i]? = some c ∧ v = .int (c.toNat : Int) u) (Fin { s₁ with heap := g }) b.size 0 [] news) :
    SrcB prog w A h₀ L m env elt x scope cl Fin (.bytes b t) s₁ := ⟨b, t, news, rfl, hh, F, N, hsz, fun _ ⟨g, e⟩ => e ▸ h g⟩
theorem iter_st {I : Addr} {b : Array UInt8} {t : Tok} : ∀ i (h h' : Heap) (o : Obj) (nw : List (Addr × Obj)), KBw.IsBytesIter h I b t i → h.get? I = some o → h'.get? I = some o → (∀ b o, h₀.get? b = some o → h'.get? b = some o) → News h₀ L h' nw → True → KBw.IsBytesIter h' I b t i :=
  fun i h h' o nw st e e' _ _ _ => by
    obtain ⟨o', q, r⟩ := st
    rw [e] at q; cases q
    exact ⟨o, e', r⟩
theorem comp_bytes {elt iter : PySem.Expr} {x : Str} {px : Pos} {scope : Scope} {cl : List (Str × Addr)} {pos : Pos} {Q : Value → Shared → Prop} (_F : Fr h₀ L s.heap m)
    (hclos : closureFor scope env = pure cl) (hcell : ∀ y ∈ scope.names, y.2 ≠ .cell) (hkind : scope.kind = .function)
    (hnames : ∀ y ∈ scope.names, y.2 = .local → scope.names.lookup y.1 = some .local) (hx : scope.names.lookup x = some .local)
    (h : wpAny (model prog w) A (eval iter env) (SrcB prog w A h₀ L m env elt x scope cl (fun s₂ => FinE h₀ L m s₂ Q)) E s)
    (hs : ∀ x, foldedSetIterable iter env x = pure x := by intro _; rfl) :
    wpAny (model prog w) A (eval (.ListComp elt [⟨.Name x px, iter, [], 0⟩] scope pos) env) Q E s := by
  rw [eval_ListComp]
  refine wpAny_comprehension_free (use := none) rfl hs hclos hkind hnames (wpAny_mono h (fun xv s₁ h₁ => ?_) fun _ _ e => e)
  obtain ⟨b, t, news, rfl, hh, F, N, hsz, R⟩ := h₁
  refine KBw.pyIter_bytes ?_
  refine block_U (KBw.walks hh s₁.heap.objs.size b t) hsz (fun i h st => by obtain ⟨o, e, _⟩ := st; exact ⟨o, e⟩) iter_st hcell hkind hx ⟨_, Heap.get?_push_size _ rfl, rfl, rfl⟩ (fun c hc => ?_)
    (F.keeps fun _ _ e => Heap.get?_push_of_some _ e) (N.grown fun _ _ e => Heap.get?_push_of_some _ e) (Nat.ne_of_lt F.ns.lt) (next_is_new F) (fun p hp => Nat.ne_of_lt (Heap.lt_size (N p hp).1)) trivial (R _ ⟨_, rfl⟩) ?_
  · rw [List.mem_singleton.mp hc]
    show s₁.heap.objs.size < (s₁.heap.push _).objs.size
    rw [Heap.size_push]; exact Nat.lt_succ_self _
  · intro D C h tk m' ys news' F' N' o1 hn hC₀ hD₀ hCL hDL hCD offC fin
    refine ⟨m', hn, fun h'' hs'' => fin D h'' tk (F'.change hs'' hCL hC₀) (fun p hp => ?_) o1⟩
    refine ⟨hs''.extBut _ _ ?_ (N' p hp).1, (N' p hp).2⟩
    rcases List.mem_cons.mp hp with rfl | hp
    · exact Ne.symm hCD
    · exact offC p hp
/-- a comprehension without a test whose elements make nothing new: values by a relation -/
theorem rest_U {P : Nat → Value → Prop} {elt : PySem.Expr} {x : Str} {scope : Scope} {cl : List (Str × Addr)} {S : List (Addr × Obj) → Prop}
    {Fin : List Value → List (Addr × Obj) → Prop} {nw : List (Addr × Obj)} (R : Nat → Value → Prop) (n : Nat)
    (stepE : ∀ i v, i < n → P i v → ∀ I oI C oC D oD m₂ h tk (E' : Value → Shared → Prop), NsObj oC m₂ → m₂ x = some v → Fr h₀ L h m → News h₀ L h ((I, oI) :: (C, oC) :: (D, oD) :: nw) →
      wpAny (model prog w) A (eval elt (compEnvC scope cl C env)) (fun y s' => R i y ∧ ∃ h' tk', s' = { s with heap := h', toks := tk' } ∧ Fr h₀ L h' m ∧ News h₀ L h' ((I, oI) :: (C, oC) :: (D, oD) :: nw)) E' { s with heap := h, toks := tk })
    (hS : S nw) (fin : ∀ ys : List Value, ys.length = n → (∀ i y, ys[i]? = some y → R i y) → Fin ys nw) :
    CompRest prog w A h₀ L m env elt x scope cl s S P Fin n 0 [] nw := by
  have go : ∀ (k i : Nat) (ys : List Value), i + k = n → ys.length = i → (∀ j y, ys[j]? = some y → R j y) → CompRest prog w A h₀ L m env elt x scope cl s S P Fin k i ys nw := by
    intro k
    induction k with
    | zero => intro i ys e hl hy; exact fin ys (by omega) hy
    | succ k ih =>
      intro i ys e hl hy
      refine CompRest.succ fun v I oI C oC D m₂ h tk E' hv hC hx F N off ne => ?_
      refine wpAny_mono (stepE i v (by omega) hv I oI C oC D _ m₂ h tk E' hC hx F N) (fun y s' q => ?_) fun _ _ z => z
      obtain ⟨hr, h', tk', rfl, F', N'⟩ := q
      refine ⟨h', tk', nw, rfl, F', N', off, hS, ih (i + 1) (ys ++ [y]) (by omega) (by simp [hl]) fun j z hz => ?_⟩
      by_cases hj : j < i
      · rw [List.getElem?_append_left (by omega)] at hz
        exact hy j z hz
      · by_cases hj2 : j = i
        · subst hj2
          rw [List.getElem?_append_right (by omega)] at hz
          simp [hl] at hz
          rw [← hz]; exact hr
        · rw [List.getElem?_eq_none (by simp; omega)] at hz; cases hz
  exact go n 0 [] (by omega) rfl fun j y h => by simp at h
end
noncomputable def signs (b : Array UInt8) : List Str := b.toList.map fun c => ⟨#[c.toNat]⟩
noncomputable def textOf (b : Array UInt8) : Str := Txt.join "" (signs b)
theorem glue_nil : ∀ (l : List UInt8) (acc : Array Nat), (l.map fun c => (⟨#[c.toNat]⟩ : Str)).foldl (fun acc p => acc ++ (Str.ofString "").cps ++ p.cps) acc = acc ++ (l.map (·.toNat)).toArray
  | [], acc => by simp
  | c :: r, acc => by
    have e : (Str.ofString "").cps = #[] := by decide +kernel
    rw [List.map_cons, List.foldl_cons, glue_nil r, e]
    simp
theorem textOf_eq (b : Array UInt8) : textOf b = ⟨(b.toList.map (·.toNat)).toArray⟩ := by
  unfold textOf Txt.join signs
  cases b.toList with
  | nil => rfl
  | cons c r =>
    show (⟨(r.map fun c => (⟨#[c.toNat]⟩ : Str)).foldl (fun acc p => acc ++ (Str.ofString "").cps ++ p.cps) #[c.toNat]⟩ : Str) = _
    rw [glue_nil]
    simp
theorem textOf_len (b : Array UInt8) : (textOf b).length = b.size := by
  rw [textOf_eq]
  show (List.toArray _).size = _
  simp
theorem strs_of {b : Array UInt8} {ys : List Value} (hl : ys.length = b.size) (hy : ∀ (i : Nat) (y : Value), ys[i]? = some y → ∃ (c : UInt8) (u : Tok), b[i]? = some c ∧ y = Value.str ⟨#[c.toNat]⟩ u) : StrsAre ys (signs b) := by
  have go : ∀ (ys : List Value) (cs : List UInt8), ys.length = cs.length → (∀ (i : Nat) (y : Value), ys[i]? = some y → ∃ (c : UInt8) (u : Tok), cs[i]? = some c ∧ y = Value.str ⟨#[c.toNat]⟩ u) → StrsAre ys (cs.map fun c => (⟨#[c.toNat]⟩ : Str)) := by
    intro ys
    induction ys with
    | nil => intro cs hl _; cases cs with | nil => exact .nil | cons c r => cases hl
    | cons y r ih =>
      intro cs hl hy
      cases cs with
      | nil => cases hl
      | cons c cr =>
        obtain ⟨c', u, e, rfl⟩ := hy 0 y rfl
        cases e
        exact .cons _ _ (ih cr (by simpa using hl) fun i z hz => by simpa using hy (i + 1) z hz)
  exact go ys b.toList (by simpa using hl) fun i y h => by simpa using hy i y h
theorem signs_sum (b : Array UInt8) : ((signs b).map (·.length)).sum = b.size := by
  unfold signs
  rw [List.map_map, ← Array.length_toList]
  induction b.toList with
  | nil => rfl
  | cons c r ih => rw [List.map_cons, List.sum_cons, ih, List.length_cons]; show 1 + r.length = _; omega
section
variable {prog : Program} {w : World}
  {A : Around} {base : Heap} {fr : List Env} {s : Shared} {Q : Value → Shared → Prop} {E : Value → Shared → Prop}
theorem c_sign_text {b : Array UInt8} {t : Tok} (G : Gr w base) (B : Below A base fr s.heap) (hR : Room A 3) (hx : b.size ≤ 1000000)
  (hret : ∀ tk h' tk', Keep s.heap h' → Q (.str (textOf b) tk) { s with heap := h', toks := tk' }) :
  wpAny (model prog w) A (call (.ref 189) [.bytes b t]) Q E s := by
  k_extra "m enter"
  case kbinds => exact [("octets", .bytes b t)]
  k_extra "m pure"
  have stop : StopComp := ⟨rfl⟩
  k_steps
  refine Hold.go ?_
  refine comp_bytes (by k_asm) (by with_unfolding_all rfl) (by decide) (by rfl) (by decide) (by rfl) ?_
  k_steps
  refine SrcB.mk rfl (by assumption) (by assumption) (by rw [sizeLine_eq]; omega) ?_
  intro g'
  refine rest_U (R := fun i y => ∃ c u, b[i]? = some c ∧ y = .str ⟨#[c.toNat]⟩ u) b.size ?_ trivial ?_
  · rintro i v hi ⟨c, u, hc, rfl⟩ I oI C oC D oD m₂ h tk E'' hC hx F N
    have hc2 := c.toNat_lt
    (try dsimp only)
    k_steps
    · exact F
    · exact N
  · intro ys hl hy
    unfold LCg.FinE
    intro D h tk F N off
    dsimp only
    k_steps
    refine join_list (News.isList N (.head _)) (strs_of hl hy) (by rw [signs_sum, show Str.length (Str.ofString "") = 0 from by decide +kernel]; omega) ?_
    intro t' k'
    dsimp only
    k_extra "m out"
    exact hret _ _ _ (kept0 kb F)
end
theorem setup_text : True := by
  k_with "m tsz" => (first | k_extra "m om" | (have h8 := hwz x9 hm9; k_extra "m om"))
  k_with "m call" => ((with_reducible show wpAny _ _ (call (Value.ref 189) _ _) _ _ _); k_extra "m names"; k_dflt (refine' c_sign_text G (Inside.below IN kF) (Room.less hR' (by k_extra "m om")) ?ktz ?_); (case ktz => k_extra "m tsz"); intro tk' h' tk2' kk'; k_extra "m after")
  trivial

-- 19_for
theorem list_cls {its : Array Value} {n : Nat} : (PySem.W.listOf its n).cls ≠ .type "list_iterator" := fun e => by
  injection e with e
  revert e
  decide
theorem list_cls2 {its : Array Value} {n : Nat} {K : String} (h : ("list" == K) = false) : (PySem.W.listOf its n).cls ≠ .type K := fun e => by
  injection e with e
  subst e
  simp at h
section
variable {σ : Type} {prog : Program} {w : World} {A : Around} {E : Value → Shared → Prop} {s : Shared} {h₀ : Heap} {env : Env} {target : PySem.Expr} {body : List Stmt} {Q : Flow → Shared → Prop}
/-- the end of a turn of a for -/
noncomputable def FEnd (h₀ : Heap) (L : Addr) (s : Shared) (it : Addr × Obj) (led : σ → List (Addr × Obj)) (nm : σ → List (Str × Value)) (P : σ → Prop) (s₂ : Shared) : Prop :=
  ∃ c' h' tk' m' nx', s₂ = { s with heap := h', toks := tk' } ∧ Fr h₀ L h' m' ∧ News h₀ L h' nx' ∧ it ∈ nx' ∧ (∀ p ∈ led c', p ∈ nx') ∧ P c' ∧ Knows m' (nm c')
noncomputable def FPost (h₀ : Heap) (L : Addr) (s : Shared) (it : Addr × Obj) (led : σ → List (Addr × Obj)) (nm : σ → List (Str × Value)) (P : σ → Prop) (Q : Flow → Shared → Prop) (f : Flow) (s₂ : Shared) : Prop :=
  match f with
  | .next => FEnd h₀ L s it led nm P s₂
  | .cont => FEnd h₀ L s it led nm P s₂
  | .brk => Q .next s₂
  | .ret v => Q (.ret v) s₂
theorem FPost.nx {h₀ : Heap} {L : Addr} {s : Shared} {it : Addr × Obj} {led : σ → List (Addr × Obj)} {nm : σ → List (Str × Value)} {P : σ → Prop} {Q : Flow → Shared → Prop} {s₂ : Shared} (h : FEnd h₀ L s it led nm P s₂) : FPost h₀ L s it led nm P Q .next s₂ := h
theorem FEnd.intro {h₀ h' : Heap} {L : Addr} {s : Shared} {it : Addr × Obj} {led : σ → List (Addr × Obj)} {nm : σ → List (Str × Value)} {P : σ → Prop} {tk' : Nat} {m' : Str → Option Value} {nx' : List (Addr × Obj)} (c' : σ)
    (F : Fr h₀ L h' m') (N : News h₀ L h' nx') (hi : it ∈ nx') (hn : ∀ p ∈ led c', p ∈ nx') (hp : P c') (hk : Knows m' (nm c')) : FEnd h₀ L s it led nm P { s with heap := h', toks := tk' } :=
  ⟨c', h', tk', m', nx', rfl, F, N, hi, hn, hp, hk⟩
theorem for_rest (led : σ → List (Addr × Obj)) (nm : σ → List (Str × Value)) (P : List Itm → σ → Prop) (I : Addr) (K : String) (keep : List (Addr × Obj))
    (hkeep : ∀ c, SubL keep (led c)) (hcls : ∀ c, ∀ p ∈ led c, p.2.cls ≠ .type K)
    (turn : ∀ a r c u h tk v o, P (a :: r) c → a.Is v h → Fr h₀ env.locals h (over (nm c) u) → News h₀ env.locals h ((I, o) :: led c) →
      wpAny (model prog w) A (assign target env v) (fun _ s₂ => wpAny (model prog w) A (execs body env) (FPost h₀ env.locals s (I, o) led nm (P r) Q) E s₂) E { s with heap := h, toks := tk })
    (done : ∀ c u h tk, P [] c → Fr h₀ env.locals h (over (nm c) u) → News h₀ env.locals h (led c) → Q .next { s with heap := h, toks := tk }) :
    ∀ (items : List Itm) (c : σ) (m : Str → Option Value) (news : List (Addr × Obj)), P items c → Knows m (nm c) → (∀ p ∈ led c, p ∈ news) → ItemsRest prog w A E h₀ env target body Q s [(I, K)] keep items m news
  | [], c, m, news, hp, hk, hn => fun h tk F N => done c m h tk hp (Fr.over F hk) fun p q => N p (hn p q)
  | a :: r, c, m, news, hp, hk, hn => by
    intro v h tk hv F
    refine AllObj.cons fun o ho => AllObj.nil ?_
    intro N
    have N' : News h₀ env.locals h ((I, o) :: led c) := fun p hp => by
      rcases List.mem_cons.mp hp with rfl | hp
      · exact N _ (.head _)
      · exact N _ (.tail _ (hn p hp))
    refine wpAny_mono (turn a r c m h tk v o hp hv (Fr.over F hk) N') (fun _ s₂ q => wpAny_mono q (fun f s₃ z => ?_) fun _ _ x => x) fun _ _ x => x
    have fin : FEnd h₀ env.locals s (I, o) led nm (P r) s₃ → UnrEndW h₀ env.locals { s with heap := h, toks := tk } [(I, o)] (fun m' n' => SubL keep n' ∧ ItemsRest prog w A E h₀ env target body Q s [(I, K)] keep r m' n') s₃ := by
      rintro ⟨c', h', tk', m', nx', rfl, F', N', hi, hn', hp', hk'⟩
      refine ⟨h', tk', m', led c', rfl, F', fun p hp => ?_, fun p hp q hq e => ?_, hkeep c', for_rest led nm P I K keep hkeep hcls turn done r c' m' (led c') hp' hk' fun p q => q⟩
      · rcases List.mem_append.mp hp with hp | hp
        · rw [List.mem_singleton.mp hp]; exact N' _ hi
        · exact N' _ (hn' p hp)
      · rw [List.mem_singleton.mp hq] at e
        have e1 := (N' _ (hn' p hp)).1
        have e2 := (N' _ hi).1
        rw [e] at e1
        refine hcls c' p hp ?_
        rw [show p.2 = o from Option.some.inj (e1.symm.trans e2)]
        exact ho
    cases f with
    | ret v => exact z
    | brk => exact z
    | next => exact fin z
    | cont => exact fin z
end
theorem letGo_range {prog : Program} {w : World} {A : Around} {E : Value → Shared → Prop} {target : PySem.Expr} {I : Addr} {x left step : Int} {v : Value} {Q' : Unit → Shared → Prop} {s' : Shared} (hit : IsRangeIter s'.heap I x left step) (h : Q' () s') :
    wpAny (model prog w) A (letOwnedTupleGo target (.ref I) v) Q' E s' := by
  have ho : s'.heap.get? I = some _ := hit
  unfold letOwnedTupleGo
  cases target <;> first
    | exact wpAny_pure h
    | (cases v <;> first
        | exact wpAny_pure h
        | (refine wpAny_bind (wpAny_load ho ?_)
           exact wpAny_pure h))
theorem range_item {n i : Nat} {a : Itm} {r : List Itm} (h : a :: r = ((List.range n).map fun (i : Nat) => Itm.tok fun t => .int (i : Int) t).drop i) : i < n ∧ a = (Itm.tok fun t => .int (i : Int) t) ∧ r = ((List.range n).map fun (i : Nat) => Itm.tok fun t => .int (i : Int) t).drop (i + 1) := by
  have hl : i < n := by
    have := congrArg List.length h
    simp at this; omega
  rw [List.drop_eq_getElem_cons (by simpa using hl)] at h
  obtain ⟨e1, e2⟩ := List.cons.inj h
  exact ⟨hl, by rw [e1]; simp, e2⟩
noncomputable def rangeItems (n : Nat) : List Itm := (List.range n).map fun (i : Nat) => Itm.tok fun t => .int (i : Int) t
theorem iter_rangeTurns {prog : Program} {w : World} {A : Around} {E : Value → Shared → Prop} {s : Shared} {h₀ : Heap} {env : Env} {target : PySem.Expr} {body : List Stmt} {Q : Flow → Shared → Prop} {r : Addr} {t u v : Tok} {n : Nat} {m₀ : Str → Option Value} {news : List (Addr × Obj)}
    (hh : A.handled = none) (hr : IsRange s.heap r 0 (n : Int) 1 t u v) (hn9 : n ≤ 100000) (F : Fr h₀ env.locals s.heap m₀) (N : News h₀ env.locals s.heap news)
    (rest₀ : ∀ I : Addr, (∀ p ∈ news, p.1 < I) → ItemsRest prog w A E h₀ env target body Q s [(I, "range_iterator")] [] (rangeItems n) m₀ news) :
    wpAny (model prog w) A (pyIter (.ref r)) (fun it s₂ => TurnsAt prog w A h₀ env target body Q E it s₂) E s := by
  have hn : Builtin.Range.rangeSize 0 (n : Int) 1 = ((n : Nat) : Int) := by
    rw [rangeSize_one]; split <;> omega
  have hsm : Builtin.Range.small 0 (n : Int) 1 = true := by
    have f : ∀ i : Int, 0 ≤ i → i ≤ 200000 → Builtin.Range.rangeFitsLong i = true := fun i a b => by unfold Builtin.Range.rangeFitsLong; simp; omega
    unfold Builtin.Range.small
    rw [hn, f 0 (by omega) (by omega), f n (by omega) (by omega), f 1 (by omega) (by omega), if_pos (by omega), f ((n : Int) + (1 - 1)) (by omega) (by omega)]
    simp
  refine wpAny_pyIter_range hr hsm ?_
  refine ktu_core (tk0 := s.toks) (keep := []) (KTurns.ofWalks (Walks.range hh s.heap.objs.size 0 1 n).bound fun i v s Q E st q => letGo_range st q) (by simp [rangeItems]) (fun i v h hp => ?_) (fun i h st => ?_) (fun b hb => ?_) (fun b hb => by simpa using hb) (fun b hb => ?_) ?_ (fun p hp hI => ?_) ?_ (F.push _) (fun p hp => ⟨Heap.get?_push_of_some _ (N p hp).1, (N p hp).2⟩) trivial (rest₀ _ fun p hp => Heap.lt_size (N p hp).1)
  · obtain ⟨hi, t, rfl⟩ := hp
    refine ⟨Itm.tok fun t => .int (i : Int) t, by unfold rangeItems; rw [List.getElem?_map, List.getElem?_range hi]; rfl, ?_⟩
    exact ⟨t, by rw [Int.zero_add, Int.mul_one]⟩
  · exact ⟨[(s.heap.objs.size, { cls := .type "range_iterator", dict := none, data := .fields #[rawInt (0 + (i : Nat) * 1), rawInt ((n : Int) - (i : Nat)), rawInt 1], slots := #[] })], ⟨⟨rfl, rfl⟩, trivial⟩, fun p hp => by rw [List.mem_singleton.mp hp]; exact st⟩
  · have hb' : b = s.heap.objs.size := by simpa using hb
    rw [hb']
    exact ⟨List.mem_cons_self .., next_is_new F⟩
  · have hb' : b = s.heap.objs.size := by simpa using hb
    exact .inl (by simp [hb'])
  · intro hI
    exact absurd F.ns.lt ((List.mem_singleton.mp hI) ▸ Nat.lt_irrefl _)
  · exact absurd (Heap.lt_size (N p hp).1) ((List.mem_singleton.mp hI) ▸ Nat.lt_irrefl _)
  · show IsRangeIter _ _ _ _ _
    rw [hn]; simpa using Heap.get?_push_size _ rfl
theorem setup_for : True := by
  k_with "m turn" => (with_reducible refine FPost.nx ?_)
  trivial

-- 20_phrase
noncomputable def isPoint (t : Tk) : Bool := t.kind.str == Str.ofString "sign" && (t.worth.toList == #[46].toList)
theorem kd_words (k : Kd) : ([Str.ofString "atom", Str.ofString "quoted"].any fun z => z == k.str) = (k == .atom || k == .quoted) := by cases k <;> decide +kernel
noncomputable def wordKind (t : Tk) : Bool := t.kind == .atom || t.kind == .quoted
noncomputable def phraseGo : List Tk → Int → List (Array UInt8) → Except Int (List (Array UInt8))
  | [], _, acc => .ok acc
  | t :: r, gl, acc =>
    if wordKind t = false ∧ isPoint t = false then .error t.place
    else phraseGo r (if isPoint t = true then (t.place : Int) + 1 else -1) ((if 0 < acc.length ∧ isPoint t = false ∧ (t.place : Int) ≠ gl then acc ++ [#[32]] else acc) ++ [t.worth])
noncomputable def phraseOf (ts : List Tk) : Except Int (Array UInt8) := match phraseGo ts 0 [] with
  | .error q => .error q
  | .ok l => .ok (joined l)
section
variable {prog : Program} {w : World}
  {A : Around} {base : Heap} {fr : List Env} {s : Shared} {Q : Value → Shared → Prop} {E : Value → Shared → Prop}
theorem c_phrase_of {l : Addr} {xs : List TkA} (G : Gr w base) (B : Below A base fr s.heap) (hR : Room A 5) (T : TokL s.heap l xs) (hx : xs.length ≤ 999) (hwz : ∀ x ∈ xs, x.tk.worth.size ≤ 999 ∧ x.tk.place ≤ 999)
  (hret : ∀ o, phraseOf ((xs.filter notComment).map (·.tk)) = .ok o → o.size ≤ 1000000 → ∀ t1 h' tk', Keep s.heap h' → Q (.bytes o t1) { s with heap := h', toks := tk' })
  (hE : ∀ q, phraseOf ((xs.filter notComment).map (·.tk)) = .error q → ∀ e h' tk', Fly base fr e q .none h' → UpBut [] s.heap h' → E (.ref e) { s with heap := h', toks := tk' }) :
  wpAny (model prog w) A (call (.ref 130) [.ref l]) Q E s := by
  k_extra "m enter"
  case kbinds => exact [("tokens", .ref l)]
  k_extra "m pure"
  have T' := T.keep (fun b o e => kb b o (by simp) e)
  have stop : StopComp := ⟨rfl⟩
  k_steps
  refine Hold.go (For_turns (by assumption) ?_ (by intro _; rfl) (Inside.pass IN))
  k_steps
  generalize hys : xs.filter notComment = ys at *
  have hyx : ∀ x ∈ ys, x ∈ xs := fun x h => by rw [← hys] at h; exact (List.mem_filter.mp h).1
  have hyl : ys.length ≤ 999 := by rw [← hys]; exact Nat.le_trans (List.length_filter_le _ _) hx
  generalize hW : phraseGo (ys.map (·.tk)) 0 [] = W
  refine Hold.go (iter_listTurns rfl (by assumption) (by assumption) (.head _) rfl rfl fun I hI => ?_)
  refine for_rest (σ := Nat × Int × Tok × List (Array UInt8 × Tok) × Nat) (fun c => [(l', PySem.W.listOf (bvals c.2.2.2.1).toArray c.2.2.2.2), (D9, PySem.W.listOf (refsT ys).toArray n9)]) (fun c => [("glued", .int c.2.1 c.2.2.1), ("parts", .ref l'), ("tokens", .ref l)])
    (fun r c => r = (refsT (ys.drop c.1)).map .val ∧ phraseGo ((ys.drop c.1).map (·.tk)) c.2.1 (c.2.2.2.1.map (·.1)) = W ∧ c.1 ≤ ys.length ∧ c.2.2.2.1.length ≤ 2 * c.1 ∧ (flat c.2.2.2.1).size ≤ 1000 * c.1 ∧ -1 ≤ c.2.1 ∧ c.2.1 ≤ 100000)
    I "list_iterator" [(D9, PySem.W.listOf (refsT ys).toArray n9)] (fun c => ⟨.tail _ (.head _), trivial⟩) (fun c p hp => by
      rcases List.mem_cons.mp hp with rfl | hp
      · exact list_cls
      · rw [List.mem_singleton.mp hp]; exact list_cls) ?_ ?_ _ (0, 0, _, [], 0) _ _ ⟨rfl, hW, Nat.zero_le _, Nat.zero_le _, by simp [flat], by dsimp only; omega, by dsimp only; omega⟩ ⟨rfl, rfl, rfl, trivial⟩ (fun p hp => by rcases List.mem_cons.mp hp with rfl | hp; exact .tail _ (.head _); rw [List.mem_singleton.mp hp]; exact .head _)
  · have hIl : @Ne Nat I l' := Nat.ne_of_gt (hI _ (.tail _ (.head _)))
    have hID : @Ne Nat I D9 := Nat.ne_of_gt (hI _ (.head _))
    refine fun a r => pr5 fun i gl tg acc ep u₁ h tk v o => an7 fun hr hp1 hp2 hp3 hp4 hp5 hp6 hv F' N' => ?_
    dsimp only at hr hp1 hp2 hp3 hp4 hp5 hp6 F' N'
    cases hd : ys.drop i with
    | nil => rw [hd] at hr; cases hr
    | cons x rest =>
      rw [hd] at hr hp1
      obtain ⟨rfl, rfl⟩ := List.cons.inj hr
      have hxm : x ∈ ys := List.mem_of_mem_drop (hd ▸ List.mem_cons_self)
      obtain rfl : v = .ref x.addr := hv
      have hT := tok_tup (F'.keep _ _ (T'.tok x (hyx x hxm)))
      have hxw := hwz x (hyx x hxm)
      have hil : i < ys.length := by
        have := congrArg List.length hd
        simp at this; omega
      have hd2 : ys.drop (i + 1) = rest := by rw [← List.drop_drop, hd]; rfl
      rw [List.map_cons, phraseGo] at hp1
      have stopB : StopBool := ⟨rfl⟩
      have stopI : StopIf := ⟨rfl⟩
      (try dsimp only)
      k_steps
      refine Hold.go (cutAt (σ := Unit) (by assumption) (fun _ => [(I, o), (l', PySem.W.listOf (bvals acc).toArray ep), (D9, PySem.W.listOf (refsT ys).toArray n9)]) (fun _ => [("at", .int (x.tk.place : Int) x.u3), ("worth", .bytes x.tk.worth x.u2), ("kind", .str x.tk.kind.str x.u1), ("glued", .int gl tg), ("parts", .ref l'), ("tokens", .ref l)]) (fun v _ => v = .bool (isPoint x.tk)) ?_ ?_)
      · (rename StopBool => st0; clear st0)
        k_steps
        · (try dsimp only)
          exact Cut.intro () (by assumption) (by assumption) (by unfold isPoint; rename (x.tk.kind.str == _) = true => hk; rw [hk]; rfl) (fun p hp => hp) ⟨rfl, rfl, rfl, rfl, rfl, rfl, trivial⟩
        · (try dsimp only)
          exact Cut.intro () (by assumption) (by assumption) (by unfold isPoint; rename (x.tk.kind.str == _) = false => hk; rw [hk]; rfl) (fun p hp => hp) ⟨rfl, rfl, rfl, rfl, rfl, rfl, trivial⟩
      · rintro _ _ u₂ h' tk' rfl F' N'
        generalize hpt : isPoint x.tk = pt at *
        dsimp only
        (rename StopBool => st0; clear st0)
        k_steps
        refine Hold.go (cutAt (σ := Unit) (by assumption) (fun _ => [(I, o), (l', PySem.W.listOf (bvals acc).toArray ep), (D9, PySem.W.listOf (refsT ys).toArray n9)]) (fun _ => [("is_point", .bool pt), ("at", .int (x.tk.place : Int) x.u3), ("worth", .bytes x.tk.worth x.u2), ("kind", .str x.tk.kind.str x.u1), ("glued", .int gl tg), ("parts", .ref l'), ("tokens", .ref l)]) (fun v _ => v = .next ∧ ¬ (wordKind x.tk = false ∧ pt = false)) ?_ ?_)
        · (rename StopIf => st0; clear st0)
          k_steps
          · (try dsimp only)
            rename (List.any _ _) = true => hk
            rw [kd_words] at hk
            exact Cut.intro () (by assumption) (by assumption) ⟨rfl, fun e => by unfold wordKind at e; rw [hk] at e; cases e.1⟩ (fun p hp => .tail _ hp) ⟨rfl, rfl, rfl, rfl, rfl, rfl, rfl, trivial⟩
          · (try dsimp only)
            exact Cut.intro () (by assumption) (by assumption) ⟨rfl, fun e => by have e2 := e.2; simp_all⟩ (fun p hp => .tail _ hp) ⟨rfl, rfl, rfl, rfl, rfl, rfl, rfl, trivial⟩
          · rename (List.any _ _) = false => hk
            rw [kd_words] at hk
            rw [if_pos ⟨hk, by assumption⟩] at hp1
            k_extra "m raised"
            refine hE _ ?_ _ _ _ x₂ (UpBut.of (kept kb (by assumption)) u₂)
            rw [phraseOf, hW, ← hp1]
        · rintro _ _ u₃ h' tk' ⟨rfl, hok⟩ F' N'
          rw [if_neg hok] at hp1
          dsimp only
          k_steps
          refine Hold.go (cutAt (σ := List (Array UInt8 × Tok) × Nat) (by assumption) (fun c => [(I, o), (l', PySem.W.listOf (bvals c.1).toArray c.2), (D9, PySem.W.listOf (refsT ys).toArray n9)]) (fun _ => [("is_point", .bool pt), ("at", .int (x.tk.place : Int) x.u3), ("worth", .bytes x.tk.worth x.u2), ("kind", .str x.tk.kind.str x.u1), ("glued", .int gl tg), ("parts", .ref l'), ("tokens", .ref l)])
            (fun v c => v = .next ∧ c.1.map (·.1) = (if 0 < (acc.map (·.1)).length ∧ pt = false ∧ (x.tk.place : Int) ≠ gl then acc.map (·.1) ++ [#[32]] else acc.map (·.1)) ∧ c.1.length ≤ acc.length + 1 ∧ (flat c.1).size ≤ (flat acc).size + 1) ?_ ?_)
          · (rename StopIf => st0; clear st0)
            k_steps
            · exact Cut.intro (acc, ep) (by assumption) (by assumption) ⟨rfl, by rw [if_neg]; simp only [List.length_map]; simp_all, Nat.le_succ _, Nat.le_succ _⟩ (fun p hp => hp) ⟨rfl, rfl, rfl, rfl, rfl, rfl, rfl, trivial⟩
            · rename_i tk8
              exact Cut.intro (acc ++ [(#[32], tk8)], ep + 1) (by assumption) (by assumption) ⟨rfl, by rw [if_pos]; simp; exact ⟨by rw [List.length_map]; omega, by assumption, by assumption⟩, by simp, by rw [flat_push]; simp⟩ (fun p hp => by dsimp only at hp; rw [← bvals_push] at hp; exact hp) ⟨rfl, rfl, rfl, rfl, rfl, rfl, rfl, trivial⟩
            · exact Cut.intro (acc, ep) (by assumption) (by assumption) ⟨rfl, by rw [if_neg]; simp only [List.length_map]; simp_all, Nat.le_succ _, Nat.le_succ _⟩ (fun p hp => hp) ⟨rfl, rfl, rfl, rfl, rfl, rfl, rfl, trivial⟩
            · exact Cut.intro (acc, ep) (by assumption) (by assumption) ⟨rfl, by rw [if_neg]; simp only [List.length_map]; (intro h9; omega), Nat.le_succ _, Nat.le_succ _⟩ (fun p hp => hp) ⟨rfl, rfl, rfl, rfl, rfl, rfl, rfl, trivial⟩
          · refine fun _ => pr2 fun acc2 ep2 u₄ h' tk' => an4 fun e9 hc1 hc2 hc3 F' N' => ?_
            subst e9
            rw [← hc1] at hp1
            dsimp only at hc2 hc3 F' N' ⊢
            (rename StopIf => st0; clear st0)
            k_steps
            · k_extra "m turn"
              rw [if_pos (by assumption)] at hp1
              exact FEnd.intro (i + 1, (x.tk.place : Int) + 1, _, acc2 ++ [(x.tk.worth, x.u2)], ep2 + 1) (by assumption) (by assumption) (.head _) (fun p hp => by dsimp only at hp; rw [← bvals_push] at hp; exact .tail _ hp) ⟨by dsimp only; rw [hd2]; rfl, by dsimp only; rw [hd2, List.map_append]; exact hp1, by dsimp only; omega, by rw [List.length_append]; dsimp only [List.length]; omega, by rw [flat_push, Array.size_append]; dsimp only; omega, by dsimp only; omega, by dsimp only; omega⟩ ⟨rfl, rfl, rfl, trivial⟩
            · k_extra "m turn"
              rw [if_neg (no_true (by assumption))] at hp1
              exact FEnd.intro (i + 1, -1, _, acc2 ++ [(x.tk.worth, x.u2)], ep2 + 1) (by assumption) (by assumption) (.head _) (fun p hp => by dsimp only at hp; rw [← bvals_push] at hp; exact .tail _ hp) ⟨by dsimp only; rw [hd2]; rfl, by dsimp only; rw [hd2, List.map_append]; exact hp1, by dsimp only; omega, by rw [List.length_append]; dsimp only [List.length]; omega, by rw [flat_push, Array.size_append]; dsimp only; omega, by dsimp only; omega, by dsimp only; omega⟩ ⟨rfl, rfl, rfl, trivial⟩
  · refine pr5 fun i gl tg acc ep u₁ h tk => an7 fun hr hp1 hp2 hp3 hp4 hp5 hp6 F' N' => ?_
    dsimp only at hr hp1 hp2 hp3 hp4 hp5 hp6 F' N'
    (try dsimp only)
    k_steps
    (try dsimp only)
    k_extra "m out"
    have hd : ys.drop i = [] := by
      cases q : ys.drop i with
      | nil => rfl
      | cons x r => rw [q] at hr; cases hr
    rw [hd] at hp1
    refine hret _ ?_ (by omega) _ _ _ (kept0 kb (by assumption))
    rw [phraseOf, hW, ← hp1, List.map_nil, phraseGo, flat_eq]
    rfl
end

-- 21_reader
theorem room_under {A : Around} {n : Nat} {C : Addr} {vals : List Value} (r : Room A (n + 1)) : Room (A.under (.builtin "type.__call__" ⟨.ref C :: vals, []⟩)) n :=
  ⟨by rw [depth_under_make]; have := r.1; omega, by
    have e : (Code.builtin "type.__call__" ⟨.ref C :: vals, []⟩).cUnits ≤ 10 := Nat.le_of_ble_eq_true rfl
    have := r.2.1
    show A.units + (Code.builtin "type.__call__" ⟨.ref C :: vals, []⟩).cUnits + 10 * n ≤ 1000
    omega, r.2.2⟩
structure RT where
  t1 : Tok
  t2 : Tok
  t3 : Tok
  u2 : Tok
  u3 : Tok
noncomputable abbrev rdDict (P : Params) (l : Addr) (k n : Nat) (T : RT) : Obj := dictOf [⟨PyData.keyHash P "tokens", .str "tokens" T.t1, .ref l⟩, ⟨PyData.keyHash P "at", .str "at" T.t2, .int (k : Int) T.u2⟩, ⟨PyData.keyHash P "length", .str "length" T.t3, .int (n : Int) T.u3⟩] 3
theorem keep_made {h h1 h2 : Heap} {M : List (Addr × Obj)} (k : Keep h h1) (n : NewIn h h1 M) (kb : KeepBut (M.map (·.1)) h1 h2) : Keep h h2 := fun b o e => kb b o (fun hm => by
  obtain ⟨q, hq, rfl⟩ := List.mem_map.mp hm
  rw [(n q hq).1] at e; cases e) (k b o e)
theorem newIn_made {g h h1 h2 : Heap} {L : Addr} {M nx : List (Addr × Obj)} (n : NewIn h h1 M) (N : News g L h2 nx) (D : List (Addr × Obj)) (hD : ∀ q ∈ D, q ∈ nx ∧ ∃ q' ∈ M, q'.1 = q.1) : NewIn h h2 D := fun q hq => by
  obtain ⟨q', hq', e⟩ := (hD q hq).2
  exact ⟨by rw [← e]; exact (n q' hq').1, (N q (hD q hq).1).1⟩
section
variable {prog : Program} {w : World}
  {A : Around} {base : Heap} {fr : List Env} {s : Shared} {Q : Value → Shared → Prop} {E : Value → Shared → Prop}
/-- an own class is called: the object and its dict are made, __init__ is to come -/
theorem make_own {C fI : Addr} {rest : List Value} {n : Nat} (G : Gr w base) (B : Below A base fr s.heap) (hR : Room A (n + 1)) (hm : makesIn (Mine.hd0.heap_1 w.params) C = true)
    (hi : findIn (Mine.hd0.heap_1 w.params) (.ref C) "__init__" = some (some (.ref fI))) (hf : typeIn (Mine.hd0.heap_1 w.params) (.ref fI) = some (.type "function"))
    (h : ∀ A' x dx h', Keep s.heap h' → NewIn s.heap h' [(x, instObj C dx), (dx, emptyDict)] → @Ne Nat x dx → Below A' base fr h' → Room A' n → OffFrames fr [x, dx] →
      codeAny (model prog w) A' (.call (.ref fI) ⟨.ref x :: rest, []⟩) (InitBack x (fun r s' => match r with | .ok (.ret v) => Q v s' | .ok _ => False | .error e => E e s')) { s with heap := h' }) :
    wpAny (model prog w) A (call (.ref C) rest) Q E s := by
  refine wpAny_call ?_
  obtain ⟨hh, g, d, t, os⟩ := s
  have X := G.X.keeps B.stays
  have n1 : hh.get? hh.objs.size = none := by
    cases q : hh.get? hh.objs.size with
    | none => rfl
    | some o => exact absurd (Heap.lt_size q) (Nat.lt_irrefl _)
  have n2 : hh.get? (hh.objs.size + 1) = none := by
    cases q : hh.get? (hh.objs.size + 1) with
    | none => rfl
    | some o => exact absurd (Heap.lt_size q) (Nat.not_lt.mpr (Nat.le_succ _))
  have k : Keep hh ((hh.push emptyDict).push (instObj C hh.objs.size)) := fun b o e => Heap.get?_push_of_some _ (Heap.get?_push_of_some _ e)
  refine make_core (makes_of X hm) (looks_findIn X hi) (fun self => bind_fn X self hf) (.inl rfl) (h _ (hh.objs.size + 1) hh.objs.size _ k ?_ (Nat.succ_ne_self _) (below_under (Below.keepAll B k)) (room_under hR) (off_fresh B ?_))
  · intro q hq
    rcases List.mem_cons.mp hq with rfl | hq
    · exact ⟨n2, by rw [← Heap.size_push hh emptyDict]; exact Heap.get?_push_size _ rfl⟩
    · rw [List.mem_singleton.mp hq]
      exact ⟨n1, Heap.get?_push_of_some _ (Heap.get?_push_size _ rfl)⟩
  · intro a ha
    rcases List.mem_cons.mp ha with rfl | ha
    · exact n2
    · rw [List.mem_singleton.mp ha]; exact n1
theorem c_reader_new {l : Addr} {n : Nat} {u : Tok} (G : Gr w base) (B : Below A base fr s.heap) (hR : Room A 4)
  (hret : ∀ r rd T h' tk', Keep s.heap h' → NewIn s.heap h' [(r, instObj 262 rd), (rd, rdDict w.params l 0 n T)] → @Ne Nat r rd → Q (.ref r) { s with heap := h', toks := tk' }) :
  wpAny (model prog w) A (call (.ref 262) [.ref l, .int n u]) Q E s := by
  refine make_own (n := 3) G B hR (by k_is) (by k_is) (by k_is) fun A' x dx h' kk' nw hne B' hR' hO => ?_
  clear hR
  have hR := hR'
  clear hR'
  have hb0 : ∀ q ∈ [(x, instObj 262 dx), (dx, emptyDict)], h'.get? q.1 = some q.2 ∧ base.get? q.1 = none := fun q hq => ⟨(nw q hq).2, base_none B (nw q hq).1⟩
  clear B
  k_extra "m enterc"
  case kbinds => exact [("self", .ref x), ("tokens", .ref l), ("length", .int n u)]
  case kM => exact [(x, instObj 262 dx), (dx, emptyDict)]
  case kN => exact hb0
  case kO => exact hO
  k_extra "m in"
  k_steps
  (try dsimp only)
  refine Inside.fall IN ⟨rfl, ?_⟩
  rename News _ _ _ _ => N9
  rename Fr _ _ _ _ => F9
  exact hret _ _ ⟨_, _, _, _, _⟩ _ _ (keep_made kk' nw (kept kb F9)) (newIn_made nw N9 _ fun q hq => ⟨hq, by
    rcases List.mem_cons.mp hq with rfl | hq
    · exact ⟨_, .head _, rfl⟩
    · rw [List.mem_singleton.mp hq]; exact ⟨_, .tail _ (.head _), rfl⟩⟩) hne
end

-- 22_methods
/-- what stays of a reader, whatever the heap -/
structure RdC (base : Heap) (fr : List Env) (r rd : Addr) : Prop where
  ne : @Ne Nat r rd
  b1 : base.get? r = none
  b2 : base.get? rd = none
  off : OffFrames fr [r, rd]
theorem RdC.push {base g h : Heap} {fr : List Env} {r rd L a : Addr} {o1 o2 : Obj} {nx : List (Addr × Obj)} {name : Str} {scope : Scope} {cd : Value} (C : RdC base fr r rd) (N : News g L h nx) (m1 : (r, o1) ∈ nx) (m2 : (rd, o2) ∈ nx) : RdC base (envOf name scope L a cd :: fr) r rd :=
  ⟨C.ne, C.b1, C.b2, fun b hb env he e => by
    rcases List.mem_cons.mp he with rfl | he
    · have hL : L = b := Option.some.inj e
      rcases List.mem_cons.mp hb with rfl | hb
      · exact (N _ m1).2.1 hL.symm
      · rw [List.mem_singleton.mp hb] at hL; exact (N _ m2).2.1 hL.symm
    · exact C.off b hb env he e⟩
theorem TokL.but {h g : Heap} {l r rd : Addr} {xs : List TkA} {P : Params} {k n : Nat} {T : RT} {l2 : Addr} (t : TokL h l xs) (kb : KeepBut [r, rd] h g) (hi : h.get? r = some (instObj 262 rd)) (hd : h.get? rd = some (rdDict P l2 k n T)) : TokL g l xs := by
  have off : ∀ b o T', h.get? b = some o → o.cls = .type T' → T' ≠ "dict" → b ∉ [r, rd] := fun b o T' e hc hT hm => by
    rcases List.mem_cons.mp hm with rfl | hm
    · rw [hi] at e; cases e; cases hc
    · rw [List.mem_singleton.mp hm, hd] at e
      cases e
      injection hc with hc
      exact hT hc.symm
  obtain ⟨⟨o, e, c, q⟩, tt⟩ := t
  exact ⟨⟨o, kb _ _ (off _ _ _ e c (by decide)) e, c, q⟩, fun x hx => kb _ _ (off _ _ _ (tt x hx) rfl (by decide)) (tt x hx)⟩
theorem kept_ro {g h h' : Heap} {L : Addr} {m : Str → Option Value} {M nx : List (Addr × Obj)} (kb : KeepBut (M.map (·.1)) h g) (F : Fr g L h' m) (N : News g L h' nx) (hM : ∀ q ∈ M, h.get? q.1 = some q.2) (sub : ∀ q ∈ M, q ∈ nx) : Keep h h' := fun b o e => by
  by_cases hb : b ∈ M.map (·.1)
  · obtain ⟨q, hq, rfl⟩ := List.mem_map.mp hb
    have := hM q hq
    rw [this] at e
    cases e
    exact (N q (sub q hq)).1
  · exact F.keep b o (kb b o hb e)
theorem item_tok {prog : Program} {w : World} {A : Around} {E : Value → Shared → Prop} {s : Shared} {value slice : PySem.Expr} {l : Addr} {xs : List TkA} {k : Nat} {u : Tok} {Q : Value → Shared → Prop} (T : TokL s.heap l xs) (hk : k < xs.length) (hx : xs.length ≤ 1000)
    (h : ∀ x, xs[k]? = some x → x ∈ xs → IsTup s.heap x.addr #[.str x.tk.kind.str x.u1, .bytes x.tk.worth x.u2, .int (x.tk.place : Int) x.u3] → Q (.ref x.addr) s)
    (hs : subscripted slice false (.ref l) (.int (k : Int) u) = operate [.ref l, .int (k : Int) u] (getItem (.ref l) (.int (k : Int) u)) := by with_unfolding_all rfl) (hg : ∀ r, letTemporaryGo value (.ref l) r = pure () := by intro _; with_unfolding_all rfl) :
    wpAny (model prog w) A (subscriptTail value slice (.ref l) (.int (k : Int) u)) Q E s := by
  have e : xs[k]? = some xs[k] := by simp [hk]
  refine item_listL T.list (by omega) (by omega) (x := .ref (xs[k]).addr) ?_ (h _ e (List.getElem_mem hk) (tok_tup (T.tok _ (List.getElem_mem hk)))) hs hg
  simp [refsT, hk]
noncomputable def kindAt (ts : List Tk) (k : Nat) : Str := match ts[k]? with
  | none => ""
  | some t => t.kind.str
theorem kind_lt {xs : List TkA} {k : Nat} {c : Str} (h : (kindAt (xs.map (·.tk)) k == c) = true) (hc : (Str.ofString "" == c) = false) : k < xs.length := by
  by_cases hl : k < xs.length
  · exact hl
  · unfold kindAt at h
    rw [show (xs.map (·.tk))[k]? = none by simp; omega] at h
    dsimp only at h
    rw [hc] at h; cases h
theorem setup_methods0 : True := by
  k_with "m rd" => ((case kM => exact [(r, instObj 262 rd), (rd, rdDict w.params l k n T)]); (case kN => exact (List.forall_mem_cons.mpr ⟨⟨hi, C.b1⟩, List.forall_mem_cons.mpr ⟨⟨hd, C.b2⟩, fun _ h => nomatch h⟩⟩)); (case kO => exact C.off); k_extra "m in"; have hM9 : ∀ q ∈ [(r, instObj 262 rd), (rd, rdDict w.params l k n T)], s.heap.get? q.1 = some q.2 := (List.forall_mem_cons.mpr ⟨hi, List.forall_mem_cons.mpr ⟨hd, fun _ h => nomatch h⟩⟩); have hT' := TokL.but hT kb hi hd; have hne9 := C.ne; clear hi hd hT)
  k_with "m ro" => (k_extra "m out"; rename News _ _ _ _ => N9; rename Fr _ _ _ _ => F9; have kro := kept_ro kb F9 N9 hM9 (by intro q9 hq9; repeat (first | exact hq9 | refine List.Mem.tail _ ?_)))
  k_with "m item" => ((with_reducible show wpAny _ _ (subscriptTail _ _ (Value.ref _) (Value.int _ _)) _ _ _); (try dsimp only); k_extra "m names"; k_dflt (refine item_tok (TokL.keep (by assumption) (Fr.keep kF)) (by first | k_extra "m om" | exact kind_lt (by assumption) (by decide +kernel)) (by k_extra "m om") ?_); intro x9 hx9 hm9 hu9; (try dsimp only at hu9))
  trivial
noncomputable def standsAt (ts : List Tk) (k : Nat) (sign : Array UInt8) : Bool := match ts[k]? with
  | none => false
  | some t => t.kind.str == Str.ofString "sign" && (t.worth.toList == sign.toList)
noncomputable def placeAt (ts : List Tk) (k n : Nat) : Int := match ts[k]? with
  | none => n
  | some t => t.place
section
variable {prog : Program} {w : World}
  {A : Around} {base : Heap} {fr : List Env} {s : Shared} {Q : Value → Shared → Prop} {E : Value → Shared → Prop}
theorem c_is_done {r rd l : Addr} {xs : List TkA} {k n : Nat} {T : RT} (G : Gr w base) (B : Below A base fr s.heap) (hR : Room A 2) (C : RdC base fr r rd) (hi : s.heap.get? r = some (instObj 262 rd)) (hd : s.heap.get? rd = some (rdDict w.params l k n T)) (hT : TokL s.heap l xs) (hx : xs.length ≤ 999)
  (hret : ∀ h' tk', Keep s.heap h' → Q (.bool (decide (xs.length ≤ k))) { s with heap := h', toks := tk' }) :
  wpAny (model prog w) A (call (.ref 210) [.ref r]) Q E s := by
  k_extra "m enter"
  case kbinds => exact [("self", .ref r)]
  k_extra "m rd"
  k_steps
  k_extra "m ro"
  exact at_bool (hret _ _ kro) (decide_eq_decide.mpr Int.ofNat_le.symm)
theorem setup_is_done : True := by
  k_with "m call" => ((with_reducible show wpAny _ _ (call (Value.ref 210) _ _) _ _ _); k_extra "m names"; k_dflt (refine' c_is_done G (Inside.below IN kF) (Room.less hR' (by k_extra "m om")) ?kC ?ki ?kd ?kT ?kx ?_); (case ki => exact (kN (_, _) (by k_mem)).1); (case kd => exact (kN (_, _) (by k_mem)).1); (case kC => exact RdC.push C kN (by k_mem) (by k_mem)); (case kT => k_extra "m toks"); (case kx => k_extra "m om"); intro h' tk' kk'; k_extra "m after")
  trivial
theorem len_tk {xs : List TkA} : (xs.map (·.tk)).length = xs.length := List.length_map _
theorem get_none {xs : List TkA} {k : Nat} (h : xs.length ≤ k) : (xs.map (·.tk))[k]? = none := by simp [h]
theorem get_some {xs : List TkA} {k : Nat} {x : TkA} (h : xs[k]? = some x) : (xs.map (·.tk))[k]? = some x.tk := by simp [h]
theorem at_str {Q : Value → Shared → Prop} {i j : Str} {tk : Tok} {s : Shared} (h : Q (.str i tk) s) (e : i = j) : Q (.str j tk) s := e ▸ h
theorem c_kind {r rd l : Addr} {xs : List TkA} {k n : Nat} {T : RT} (G : Gr w base) (B : Below A base fr s.heap) (hR : Room A 3) (C : RdC base fr r rd) (hi : s.heap.get? r = some (instObj 262 rd)) (hd : s.heap.get? rd = some (rdDict w.params l k n T)) (hT : TokL s.heap l xs) (hx : xs.length ≤ 999)
  (hret : ∀ tk h' tk', Keep s.heap h' → Q (.str (kindAt (xs.map (·.tk)) k) tk) { s with heap := h', toks := tk' }) :
  wpAny (model prog w) A (call (.ref 217) [.ref r]) Q E s := by
  k_extra "m enter"
  case kbinds => exact [("self", .ref r)]
  k_extra "m rd"
  k_steps
  · k_extra "m ro"
    have e : kindAt (xs.map (·.tk)) k = "" := by unfold kindAt; rw [get_none (by assumption)]
    rw [e] at hret
    exact hret _ _ _ kro
  · k_extra "m ro"
    have e : kindAt (xs.map (·.tk)) k = x9.tk.kind.str := by unfold kindAt; rw [get_some hx9]
    rw [e] at hret
    exact hret _ _ _ kro
theorem setup_kind : True := by
  k_with "m call" => ((with_reducible show wpAny _ _ (call (Value.ref 217) _ _) _ _ _); (try dsimp only); k_extra "m names"; k_dflt (refine' c_kind G (Inside.below IN kF) (Room.less hR' (by k_extra "m om")) ?kC ?ki ?kd ?kT ?kx ?_); (case ki => exact (kN (_, _) (by k_mem)).1); (case kd => exact (kN (_, _) (by k_mem)).1); (case kC => exact RdC.push C kN (by k_mem) (by k_mem)); (case kT => k_extra "m toks"); (case kx => k_extra "m om"); intro tk' h' tk2' kk'; k_extra "m after")
  trivial
theorem c_stands {sg : Array UInt8} {ts : Tok} {r rd l : Addr} {xs : List TkA} {k n : Nat} {T : RT} (G : Gr w base) (B : Below A base fr s.heap) (hR : Room A 4) (C : RdC base fr r rd) (hi : s.heap.get? r = some (instObj 262 rd)) (hd : s.heap.get? rd = some (rdDict w.params l k n T)) (hT : TokL s.heap l xs) (hx : xs.length ≤ 999)
  (hret : ∀ h' tk', Keep s.heap h' → Q (.bool (standsAt (xs.map (·.tk)) k sg)) { s with heap := h', toks := tk' }) :
  wpAny (model prog w) A (call (.ref 224) [.ref r, .bytes sg ts]) Q E s := by
  k_extra "m enter"
  case kbinds => exact [("self", .ref r), ("sign", .bytes sg ts)]
  k_extra "m rd"
  k_steps
  · k_extra "m ro"
    have e : standsAt (xs.map (·.tk)) k sg = (x9.tk.worth.toList == sg.toList) := by
      rename (kindAt _ _ == _) = true => hk
      unfold kindAt at hk
      rw [get_some hx9] at hk
      unfold standsAt
      rw [get_some hx9]
      dsimp only at hk ⊢
      rw [hk, Bool.true_and]
    rw [e] at hret
    exact hret _ _ kro
  · k_extra "m ro"
    rename (kindAt _ _ == _) = false => hk
    have e : standsAt (xs.map (·.tk)) k sg = false := by
      unfold kindAt at hk
      unfold standsAt
      cases hg : (xs.map (·.tk))[k]? with
      | none => rfl
      | some t => rw [hg] at hk; dsimp only at hk ⊢; rw [hk, Bool.false_and]
    rw [e] at hret
    rw [hk]
    exact hret _ _ kro
end
theorem setup_methods1 : True := by
  k_with "m rd" => ((case kM => exact [(r, instObj 262 rd), (rd, rdDict w.params l k n T)]); (case kN => exact (List.forall_mem_cons.mpr ⟨⟨hi, C.b1⟩, List.forall_mem_cons.mpr ⟨⟨hd, C.b2⟩, fun _ h => nomatch h⟩⟩)); (case kO => exact C.off); k_extra "m in"; have hM9 : ∀ q ∈ [(r, instObj 262 rd), (rd, rdDict w.params l k n T)], s.heap.get? q.1 = some q.2 := (List.forall_mem_cons.mpr ⟨hi, List.forall_mem_cons.mpr ⟨hd, fun _ h => nomatch h⟩⟩); have hT' := TokL.but hT kb hi hd; have hne9 := C.ne; clear hi hd hT)
  k_with "m ro" => (k_extra "m out"; rename News _ _ _ _ => N9; rename Fr _ _ _ _ => F9; have kro := kept_ro kb F9 N9 hM9 (by intro q9 hq9; repeat (first | exact hq9 | refine List.Mem.tail _ ?_)))
  k_with "m item" => ((with_reducible show wpAny _ _ (subscriptTail _ _ (Value.ref _) (Value.int _ _)) _ _ _); (try dsimp only); k_extra "m names"; k_dflt (refine item_tok (TokL.keep (by assumption) (Fr.keep kF)) (by first | k_extra "m om" | exact kind_lt (by assumption) (by decide +kernel)) (by k_extra "m om") ?_); intro x9 hx9 hm9 hu9; (try dsimp only at hu9))
  trivial
theorem setup_methods : True := by
  k_with "m call" => ((with_reducible show wpAny _ _ (call (Value.ref 210) _ _) _ _ _); (try dsimp only); k_extra "m names"; k_dflt (refine' c_is_done G (Inside.below IN kF) (Room.less hR' (by k_extra "m om")) ?kC ?ki ?kd ?kT ?kx ?_); (case ki => exact (kN (_, _) (by k_mem)).1); (case kd => exact (kN (_, _) (by k_mem)).1); (case kC => exact RdC.push C kN (by k_mem) (by k_mem)); (case kT => k_extra "m toks"); (case kx => k_extra "m om"); intro h' tk' kk'; k_extra "m after")
  k_with "m call" => ((with_reducible show wpAny _ _ (call (Value.ref 217) _ _) _ _ _); (try dsimp only); k_extra "m names"; k_dflt (refine' c_kind G (Inside.below IN kF) (Room.less hR' (by k_extra "m om")) ?kC ?ki ?kd ?kT ?kx ?_); (case ki => exact (kN (_, _) (by k_mem)).1); (case kd => exact (kN (_, _) (by k_mem)).1); (case kC => exact RdC.push C kN (by k_mem) (by k_mem)); (case kT => k_extra "m toks"); (case kx => k_extra "m om"); intro tk' h' tk2' kk'; k_extra "m after")
  k_with "m call" => ((with_reducible show wpAny _ _ (call (Value.ref 224) _ _) _ _ _); (try dsimp only); k_extra "m names"; k_dflt (refine' c_stands G (Inside.below IN kF) (Room.less hR' (by k_extra "m om")) ?kC ?ki ?kd ?kT ?kx ?_); (case ki => exact (kN (_, _) (by k_mem)).1); (case kd => exact (kN (_, _) (by k_mem)).1); (case kC => exact RdC.push C kN (by k_mem) (by k_mem)); (case kT => k_extra "m toks"); (case kx => k_extra "m om"); intro h' tk' kk'; k_extra "m after")
  trivial

-- 23_take
theorem News.turn {g h h' : Heap} {L rd : Addr} {o o' : Obj} {nx nx' : List (Addr × Obj)} {m : Str → Option Value} (F : Fr g L h m) (N : News g L h nx) (U : Upd rd o o' nx nx') (k : KeepBut [rd] h h') (ho : h'.get? rd = some o') : Fr g L h' m ∧ News g L h' nx' := by
  obtain ⟨pre, post, rfl, rfl, a, b⟩ := U.split
  have z := N (rd, o) (List.mem_append.mpr (.inr (.head _)))
  have kk : ∀ c oc, c ≠ rd → h.get? c = some oc → h'.get? c = some oc := fun c oc hc e => k c oc (by simpa using hc) e
  refine ⟨⟨F.ns.at' fun oL e => kk _ oL (Ne.symm z.2.1) e, fun c oc e => kk c oc (fun q => by rw [q, z.2.2] at e; cases e) (F.keep c oc e), F.above⟩, fun q hq => ?_⟩
  rcases List.mem_append.mp hq with hq | hq
  · have y := N q (List.mem_append.mpr (.inl hq)); exact ⟨kk _ _ (a q hq) y.1, y.2⟩
  · rcases List.mem_cons.mp hq with rfl | hq
    · exact ⟨ho, z.2⟩
    · have y := N q (List.mem_append.mpr (.inr (.tail _ hq))); exact ⟨kk _ _ (b q hq) y.1, y.2⟩
theorem kept_mut {g h h' : Heap} {L r rd : Addr} {oi : Obj} {m : Str → Option Value} {nx : List (Addr × Obj)} (kb : KeepBut [r, rd] h g) (F : Fr g L h' m) (N : News g L h' nx) (hi : h.get? r = some oi) (sub : (r, oi) ∈ nx) : KeepBut [rd] h h' := fun b o hb e => by
  by_cases hr : b = r
  · subst hr
    rw [hi] at e; cases e
    exact (N _ sub).1
  · exact F.keep b o (kb b o (by simp [hr]; simpa using hb) e)
theorem rd_next {h : Heap} {rd l : Addr} {P : Params} {k n : Nat} {t1 t2 t3 u2 u3 : Tok} (e : h.get? rd = some (dictOf [⟨PyData.keyHash P "tokens", .str "tokens" t1, .ref l⟩, ⟨PyData.keyHash P "at", .str "at" t2, .int ((k : Int) + 1) u2⟩, ⟨PyData.keyHash P "length", .str "length" t3, .int (n : Int) u3⟩] 3)) :
    h.get? rd = some (rdDict P l (k + 1) n ⟨t1, t2, t3, u2, u3⟩) := e
section
variable {prog : Program} {w : World}
  {A : Around} {base : Heap} {fr : List Env} {s : Shared} {Q : Value → Shared → Prop} {E : Value → Shared → Prop}
theorem c_take {r rd l : Addr} {xs : List TkA} {k n : Nat} {T : RT} (G : Gr w base) (B : Below A base fr s.heap) (hR : Room A 3) (C : RdC base fr r rd) (hi : s.heap.get? r = some (instObj 262 rd)) (hd : s.heap.get? rd = some (rdDict w.params l k n T)) (hT : TokL s.heap l xs) (hx : xs.length ≤ 999) (hk : k < xs.length)
  (hret : ∀ x T' h' tk', xs[k]? = some x → x ∈ xs → KeepBut [rd] s.heap h' → h'.get? rd = some (rdDict w.params l (k + 1) n T') → Q (.ref x.addr) { s with heap := h', toks := tk' }) :
  wpAny (model prog w) A (call (.ref 231) [.ref r]) Q E s := by
  k_extra "m enter"
  case kbinds => exact [("self", .ref r)]
  k_extra "m rd"
  k_steps
  k_extra "m out"
  rename News _ _ _ _ => N9
  rename Fr _ _ _ _ => F9
  exact hret x9 _ _ _ hx9 hm9 (kept_mut kb F9 N9 (hM9 _ (.head _)) (.head _)) (rd_next (N9 _ (.tail _ (.head _))).1)
theorem c_skip {sg : Array UInt8} {ts : Tok} {r rd l : Addr} {xs : List TkA} {k n : Nat} {T : RT} (G : Gr w base) (B : Below A base fr s.heap) (hR : Room A 5) (C : RdC base fr r rd) (hi : s.heap.get? r = some (instObj 262 rd)) (hd : s.heap.get? rd = some (rdDict w.params l k n T)) (hT : TokL s.heap l xs) (hx : xs.length ≤ 999)
  (hretT : standsAt (xs.map (·.tk)) k sg = true → ∀ T' h' tk', KeepBut [rd] s.heap h' → h'.get? rd = some (rdDict w.params l (k + 1) n T') → Q (.bool true) { s with heap := h', toks := tk' })
  (hretF : standsAt (xs.map (·.tk)) k sg = false → ∀ h' tk', Keep s.heap h' → Q (.bool false) { s with heap := h', toks := tk' }) :
  wpAny (model prog w) A (call (.ref 238) [.ref r, .bytes sg ts]) Q E s := by
  k_extra "m enter"
  case kbinds => exact [("self", .ref r), ("sign", .bytes sg ts)]
  k_extra "m rd"
  k_steps
  · dsimp only
    k_extra "m out"
    rename News _ _ _ _ => N9
    rename Fr _ _ _ _ => F9
    exact hretT (by assumption) _ _ _ (kept_mut kb F9 N9 (hM9 _ (.head _)) (.head _)) (rd_next (N9 _ (.tail _ (.head _))).1)
  · dsimp only
    k_extra "m ro"
    exact hretF (by assumption) _ _ kro
end
theorem setup_take : True := by
  k_with "m call" => ((with_reducible show wpAny _ _ (call (Value.ref 231) _ _) _ _ _); (try dsimp only); k_extra "m names"; k_dflt (refine' c_take G (Inside.below IN kF) (Room.less hR' (by k_extra "m om")) ?kC ?ki ?kd ?kT ?kx ?kk ?_); (case ki => exact (kN (_, _) (by k_mem)).1); (case kd => exact (kN (_, _) (by k_mem)).1); (case kC => exact RdC.push C kN (by k_mem) (by k_mem)); (case kT => k_extra "m toks"); (case kx => k_extra "m om"); (case kk => k_extra "m lt"); intro x9 T9 h' tk' hx9 hm9 kk' hd'; (try dsimp only at kk'); have nf' := News.turn kF kN (by k_upd) kk' hd'; have F' := nf'.1; have N' := nf'.2; clear nf' kF kN kk' hd'; have hu9 := tok_tup (Fr.keep F' _ _ (TokL.tok (by assumption) x9 hm9)); (try dsimp only))
  k_with "m call" => ((with_reducible show wpAny _ _ (call (Value.ref 238) _ _) _ _ _); (try dsimp only); k_extra "m names"; k_dflt (refine' c_skip G (Inside.below IN kF) (Room.less hR' (by k_extra "m om")) ?kC ?ki ?kd ?kT ?kx ?_ ?_); (case ki => exact (kN (_, _) (by k_mem)).1); (case kd => exact (kN (_, _) (by k_mem)).1); (case kC => exact RdC.push C kN (by k_mem) (by k_mem)); (case kT => k_extra "m toks"); (case kx => k_extra "m om"); rotate_left 1; (intro hs9 h' tk' kk'; k_extra "m after"); rotate_right 1; (intro hs9 T9 h' tk' kk' hd'; (try dsimp only at kk'); have nf' := News.turn kF kN (by k_upd) kk' hd'; have F' := nf'.1; have N' := nf'.2; clear nf' kF kN kk' hd'; (try dsimp only)))
  k_with "m lt" => (first | k_extra "m om" | exact kind_lt (by assumption) (by decide +kernel))
  trivial

-- 24_words
noncomputable def wordOn (ts : List Tk) (k : Nat) : Bool := (kindAt ts k != Str.ofString "sign") || standsAt ts k #[46]
noncomputable def wordEnd (ts : List Tk) : Nat → Nat → Nat
  | 0, k => k
  | f + 1, k => if k < ts.length then (if wordOn ts k = true then wordEnd ts f (k + 1) else k) else k
noncomputable def wordsTo (ts : List Tk) (k : Nat) : Nat := wordEnd ts (ts.length + 1) k
noncomputable def span (xs : List TkA) (i j : Nat) : List TkA := (xs.drop i).take (j - i)
theorem span_snoc {xs : List TkA} {i j : Nat} {x : TkA} (h : xs[j]? = some x) (hi : i ≤ j) : span xs i (j + 1) = span xs i j ++ [x] := by
  unfold span
  rw [show j + 1 - i = (j - i) + 1 by omega, List.take_add_one, List.getElem?_drop, show i + (j - i) = j by omega, h]
  rfl
theorem span_len {xs : List TkA} {i j : Nat} (h : j ≤ xs.length) : (span xs i j).length = j - i := by
  unfold span; rw [List.length_take, List.length_drop]; omega
theorem span_nil {xs : List TkA} {i : Nat} : span xs i i = [] := by simp [span]
theorem span_mem {xs : List TkA} {i j : Nat} {x : TkA} (h : x ∈ span xs i j) : x ∈ xs := List.mem_of_mem_drop (List.mem_of_mem_take h)
theorem wordEnd_le {ts : List Tk} : ∀ {f k : Nat}, k ≤ ts.length → k ≤ wordEnd ts f k ∧ wordEnd ts f k ≤ ts.length
  | 0, k, h => ⟨Nat.le_refl _, h⟩
  | f + 1, k, h => by
    rw [wordEnd]
    split
    · split
      · have := @wordEnd_le ts f (k + 1) (by omega)
        omega
      · exact ⟨Nat.le_refl _, h⟩
    · exact ⟨Nat.le_refl _, h⟩
theorem News.cons1 {g h h' : Heap} {L a : Addr} {o : Obj} {m : Str → Option Value} {nx nx' : List (Addr × Obj)} (F : Fr g L h m) (N : News g L h nx) (N1 : News g L h' nx') (hn : h.get? a = none) (ho : h'.get? a = some o) : News g L h' ((a, o) :: nx') := fun q hq => by
  rcases List.mem_cons.mp hq with rfl | hq
  · refine ⟨ho, fun e => ?_, ?_⟩
    · obtain ⟨oL, _, _, hL, _⟩ := F.ns
      dsimp only at e
      rw [← e, hn] at hL; cases hL
    · cases x : g.get? a with
      | none => rfl
      | some o' => rw [F.keep _ _ x] at hn; cases hn
  · exact N1 q hq
theorem setup_words : True := by
  k_with "m call" => ((with_reducible show wpAny _ _ (call (Value.ref 245) _ _) _ _ _); (try dsimp only); k_extra "m names"; k_dflt (refine' c_rfault G (Inside.below IN kF) (Room.less hR' (by k_extra "m om")) ?kC ?ki ?kd ?kT ?kx ?_); (case ki => exact (kN (_, _) (by k_mem)).1); (case kd => exact (kN (_, _) (by k_mem)).1); (case kC => exact RdC.push C kN (by k_mem) (by k_mem)); (case kT => k_extra "m toks"); (case kx => k_extra "m om"); intro e' h' tk' kk' x'; k_extra "m after")
  trivial
section
variable {prog : Program} {w : World}
  {A : Around} {base : Heap} {fr : List Env} {s : Shared} {Q : Value → Shared → Prop} {E : Value → Shared → Prop}
theorem c_rfault {x : Str} {tx : Tok} {r rd l : Addr} {xs : List TkA} {k n : Nat} {T : RT} (G : Gr w base) (B : Below A base fr s.heap) (hR : Room A 4) (C : RdC base fr r rd) (hi : s.heap.get? r = some (instObj 262 rd)) (hd : s.heap.get? rd = some (rdDict w.params l k n T)) (hT : TokL s.heap l xs) (hx : xs.length ≤ 999)
  (hret : ∀ e h' tk', Keep s.heap h' → Fresh base e (placeAt (xs.map (·.tk)) k n) h' → Q (.ref e) { s with heap := h', toks := tk' }) :
  wpAny (model prog w) A (call (.ref 245) [.ref r, .str x tx]) Q E s := by
  k_extra "m enter"
  case kbinds => exact [("self", .ref r), ("what", .str x tx)]
  k_extra "m rd"
  k_steps
  · k_extra "m ro"
    have e : placeAt (xs.map (·.tk)) k n = n := by unfold placeAt; rw [get_none (by assumption)]
    rw [e] at hret
    exact hret _ _ _ kro (by assumption)
  · k_extra "m ro"
    have e : placeAt (xs.map (·.tk)) k n = x9.tk.place := by unfold placeAt; rw [get_some hx9]
    rw [e] at hret
    exact hret _ _ _ kro (by assumption)
theorem c_words {r rd l : Addr} {xs : List TkA} {k n : Nat} {T : RT} (G : Gr w base) (B : Below A base fr s.heap) (hR : Room A 6) (C : RdC base fr r rd) (hi : s.heap.get? r = some (instObj 262 rd)) (hd : s.heap.get? rd = some (rdDict w.params l k n T)) (hT : TokL s.heap l xs) (hx : xs.length ≤ 999) (hk : k ≤ xs.length)
  (hret : ∀ lw ep T' h' tk', KeepBut [rd] s.heap h' → h'.get? rd = some (rdDict w.params l (wordsTo (xs.map (·.tk)) k) n T') → s.heap.get? lw = none → h'.get? lw = some (listOf (refsT (span xs k (wordsTo (xs.map (·.tk)) k))).toArray ep) → Q (.ref lw) { s with heap := h', toks := tk' }) :
  wpAny (model prog w) A (call (.ref 259) [.ref r]) Q E s := by
  k_extra "m enter"
  case kbinds => exact [("self", .ref r)]
  k_extra "m rd"
  unfold wordsTo at hret
  generalize hW : wordEnd (xs.map (·.tk)) ((xs.map (·.tk)).length + 1) k = W at hret
  k_steps
  refine Hold.go ?_
  refine while_own (σ := Nat × Nat × RT × Nat) (fun c => [(l', PySem.W.listOf (refsT (span xs k c.2.1)).toArray c.2.2.2), (r, instObj 262 rd), (rd, rdDict w.params l c.2.1 n c.2.2.1)]) (fun c => [("found", .ref l'), ("self", .ref r)])
    (fun c => wordEnd (xs.map (·.tk)) c.1 c.2.1 = W ∧ xs.length < c.2.1 + c.1 ∧ k ≤ c.2.1 ∧ c.2.1 ≤ xs.length) (fun c => c.1) (xs.length + 1, k, T, 0) (by assumption) (by assumption) (fun p hp => by rw [span_nil] at hp; exact hp) ⟨by rw [← len_tk]; exact hW, by dsimp only; omega, Nat.le_refl _, hk⟩ ⟨rfl, rfl, trivial⟩ ?_ (Inside.pass IN)
  refine pr4 fun f j Tj ep u₁ h tk2 => an4 fun hp1 hp2 hp3 hp4 F' N' => ?_
  dsimp only at hp1 hp2 hp3 hp4 F' N'
  have hsl := @span_len xs k j hp4
  have stopB : StopBool := ⟨rfl⟩
  (try dsimp only)
  k_steps
  refine Hold.go (cutAt (σ := Unit) (by assumption) (fun _ => [(l', PySem.W.listOf (refsT (span xs k j)).toArray ep), (r, instObj 262 rd), (rd, rdDict w.params l j n Tj)]) (fun _ => [("found", .ref l'), ("self", .ref r)]) (fun v _ => v = (decide (j < xs.length) && wordOn (xs.map (·.tk)) j)) ?_ ?_)
  · (rename StopBool => st0; clear st0)
    unfold wordOn
    k_steps
    · exact Cut.intro () (by assumption) (by assumption) (by rw [decide_eq_false (by omega)]; rfl) (fun p hp => hp) ⟨rfl, rfl, trivial⟩
    all_goals (rw [decide_eq_true (by omega)])
    · exact Cut.intro () (by assumption) (by assumption) (by rename (kindAt _ _ != _) = true => hk; rw [hk]; rfl) (fun p hp => hp) ⟨rfl, rfl, trivial⟩
    · exact Cut.intro () (by assumption) (by assumption) (by rename (kindAt _ _ != _) = false => hk; rename standsAt _ _ _ = true => hs; rw [hk, hs]; rfl) (fun p hp => hp) ⟨rfl, rfl, trivial⟩
    · exact Cut.intro () (by assumption) (by assumption) (by rename (kindAt _ _ != _) = false => hk; rename standsAt _ _ _ = false => hs; rw [hk, hs]; rfl) (fun p hp => hp) ⟨rfl, rfl, trivial⟩
  · rintro v _ u₂ h' tk' hv F' N'
    (rename StopBool => st0; clear st0)
    obtain ⟨f', rfl⟩ : ∃ f', f = f' + 1 := by first | exact fuel (by assumption) (by assumption) | exact fuel2 (by assumption) (by assumption) | exact ⟨f - 1, by omega⟩
    rw [wordEnd, len_tk] at hp1
    cases v with
    | true =>
      have hv2 := hv.symm
      simp only [Bool.and_eq_true, decide_eq_true_eq] at hv2
      rw [if_pos hv2.1, if_pos hv2.2] at hp1
      have hjl := hv2.1
      simp only [if_true]
      k_steps
      k_extra "m turn"
      exact WEnd.intro (f', j + 1, T9, ep + 1) (by assumption) (by assumption) (fun p hp => by rw [span_snoc hx9 hp3, ← refsT_push] at hp; exact hp) ⟨hp1, by dsimp only; omega, by dsimp only; omega, by dsimp only; omega⟩ (Nat.lt_succ_self _) ⟨rfl, rfl, trivial⟩
    | false =>
      have e : j = W := by
        rw [← hp1]
        by_cases hj : j < xs.length
        · rw [if_pos hj, if_neg]
          intro hw
          rw [decide_eq_true hj, hw] at hv; cases hv
        · rw [if_neg hj]
      subst e
      simp only [Bool.false_eq_true, if_false]
      k_steps
      dsimp only
      k_extra "m out"
      rename News _ _ _ _ => N9
      rename Fr _ _ _ _ => F9
      exact hret l' ep Tj _ _ (kept_mut kb F9 N9 (hM9 _ (.head _)) (.tail _ (.head _))) (N9 _ (.tail _ (.tail _ (.head _)))).1 (fresh0 kb N9 (.head _) (by intro hm; simp only [List.map_cons, List.map_nil, List.mem_cons, List.not_mem_nil, or_false] at hm; rcases hm with hm | hm; exact Nat.ne_of_gt l1.1 hm; exact Nat.ne_of_gt l1.2 hm)) (N9 _ (.head _)).1
end
theorem setup_words2 : True := by
  k_with "m call" => ((with_reducible show wpAny _ _ (call (Value.ref 245) _ _) _ _ _); (try dsimp only); k_extra "m names"; k_dflt (refine' c_rfault G (Inside.below IN kF) (Room.less hR' (by k_extra "m om")) ?kC ?ki ?kd ?kT ?kx ?_); (case ki => exact (kN (_, _) (by k_mem)).1); (case kd => exact (kN (_, _) (by k_mem)).1); (case kC => exact RdC.push C kN (by k_mem) (by k_mem)); (case kT => k_extra "m toks"); (case kx => k_extra "m om"); intro e' h' tk' kk' x'; k_extra "m after")
  k_with "m call" => ((with_reducible show wpAny _ _ (call (Value.ref 259) _ _) _ _ _); (try dsimp only); k_extra "m names"; k_dflt (refine' c_words G (Inside.below IN kF) (Room.less hR' (by k_extra "m om")) ?kC ?ki ?kd ?kT ?kx ?kk ?_); (case ki => exact (kN (_, _) (by k_mem)).1); (case kd => exact (kN (_, _) (by k_mem)).1); (case kC => exact RdC.push C kN (by k_mem) (by k_mem)); (case kT => k_extra "m toks"); (case kx => k_extra "m om"); (case kk => k_extra "m om"); intro lw9 ep9 T9 h' tk' kk' hd' hln hlo; (try dsimp only at kk'); have ne9 := News.ne kN hln; simp only [AllNe, and_true] at ne9; have nf' := News.turn kF kN (by k_upd) kk' hd'; have F' := nf'.1; have N1 := nf'.2; have N' := News.cons1 kF kN N1 hln hlo; clear nf' N1 kF kN kk' hd' hln hlo; (try dsimp only))
  trivial

-- 25_need
theorem len_missing : (Str.ofString " is missing").length = 11 := by decide +kernel
theorem len_lb : (Str.ofString "[").length = 1 := by decide +kernel
theorem len_rb : (Str.ofString "]").length = 1 := by decide +kernel
theorem setup_need0 : True := by
  k_with "m stradd" => (k_dflt (refine SB.add ?_ (by simp only [sizeLine_eq, Str.length_append, textOf_len, len_missing, len_lb, len_rb]; k_extra "m om")); intro t8' k8'; (try dsimp only))
  trivial
section
variable {prog : Program} {w : World}
  {A : Around} {base : Heap} {fr : List Env} {s : Shared} {Q : Value → Shared → Prop} {E : Value → Shared → Prop}
theorem c_need {sg : Array UInt8} {ts : Tok} {r rd l : Addr} {xs : List TkA} {k n : Nat} {T : RT} (G : Gr w base) (B : Below A base fr s.heap) (hR : Room A 7) (C : RdC base fr r rd) (hi : s.heap.get? r = some (instObj 262 rd)) (hd : s.heap.get? rd = some (rdDict w.params l k n T)) (hT : TokL s.heap l xs) (hx : xs.length ≤ 999) (hsg : sg.size ≤ 999)
  (hret : standsAt (xs.map (·.tk)) k sg = true → ∀ T' h' tk', KeepBut [rd] s.heap h' → h'.get? rd = some (rdDict w.params l (k + 1) n T') → Q .none { s with heap := h', toks := tk' })
  (hE : standsAt (xs.map (·.tk)) k sg = false → ∀ e h' tk', Fly base fr e (placeAt (xs.map (·.tk)) k n) .none h' → UpBut [r, rd] s.heap h' → E (.ref e) { s with heap := h', toks := tk' }) :
  wpAny (model prog w) A (call (.ref 252) [.ref r, .bytes sg ts]) Q E s := by
  k_extra "m enter"
  case kbinds => exact [("self", .ref r), ("sign", .bytes sg ts)]
  k_extra "m rd"
  k_steps
  · refine Inside.fall IN ?_
    rename News _ _ _ _ => N9
    rename Fr _ _ _ _ => F9
    exact hret hs9 T9 _ _ (kept_mut kb F9 N9 (hM9 _ (.head _)) (.head _)) (N9 _ (.tail _ (.head _))).1
  · k_extra "m raised"
    exact hE hs9 _ _ _ x₂ (UpBut.of (kept kb (by assumption)) u₂)
end
theorem setup_need : True := by
  k_with "m stradd" => (k_dflt (refine SB.add ?_ (by simp only [sizeLine_eq, Str.length_append, textOf_len, len_missing, len_lb, len_rb]; k_extra "m om")); intro t8' k8'; (try dsimp only))
  k_with "m call" => ((with_reducible show wpAny _ _ (call (Value.ref 252) _ _) _ _ _); (try dsimp only); k_extra "m names"; k_dflt (refine' c_need G (Inside.below IN kF) (Room.less hR' (by k_extra "m om")) ?kC ?ki ?kd ?kT ?kx ?ks ?_ ?_); (case ki => exact (kN (_, _) (by k_mem)).1); (case kd => exact (kN (_, _) (by k_mem)).1); (case kC => exact RdC.push C kN (by k_mem) (by k_mem)); (case kT => k_extra "m toks"); (case kx => k_extra "m om"); (case ks => exact Nat.le_of_ble_eq_true rfl); rotate_left 1; (intro hs9 e' h' tk' x' u'; k_extra "m he"); rotate_right 1; (intro hs9 T9 h' tk' kk' hd'; (try dsimp only at kk'); have nf' := News.turn kF kN (by k_upd) kk' hd'; have F' := nf'.1; have N' := nf'.2; clear nf' kF kN kk' hd'; (try dsimp only)))
  trivial

-- 26_local
noncomputable def notLocal (t : Tk) (i : Nat) : Bool := ((t.kind.str == Str.ofString "sign") != ((i : Int).fmod 2 == 1)) || (t.kind.str == Str.ofString "literal")
noncomputable def localGo : List Tk → Nat → List (Array UInt8) → Except Int (List (Array UInt8))
  | [], _, acc => .ok acc
  | t :: r, i, acc => if notLocal t i = true then .error t.place else localGo r (i + 1) (acc ++ [t.worth])
noncomputable def localOf (ts : List Tk) (place : Int) : Except Int Str := match localGo ts 0 [] with
  | .error q => .error q
  | .ok l => if (ts.length : Int).fmod 2 = 0 then .error place else .ok (textOf (joined l))
section
variable {prog : Program} {w : World}
  {A : Around} {base : Heap} {fr : List Env} {s : Shared} {Q : Value → Shared → Prop} {E : Value → Shared → Prop}
theorem c_local_of {lw : Addr} {ws : List TkA} {r rd l : Addr} {xs : List TkA} {k n : Nat} {T : RT} (G : Gr w base) (B : Below A base fr s.heap) (hR : Room A 5) (C : RdC base fr r rd) (hi : s.heap.get? r = some (instObj 262 rd)) (hd : s.heap.get? rd = some (rdDict w.params l k n T)) (hT : TokL s.heap l xs) (hx : xs.length ≤ 999) (hTw : TokL s.heap lw ws) (hlw : ws.length ≤ 999) (hwz : ∀ x ∈ ws, x.tk.worth.size ≤ 999 ∧ x.tk.place ≤ 999)
  (hret : ∀ o, localOf (ws.map (·.tk)) (placeAt (xs.map (·.tk)) k n) = .ok o → o.length ≤ 1000000 → ∀ t1 h' tk', Keep s.heap h' → Q (.str o t1) { s with heap := h', toks := tk' })
  (hE : ∀ q, localOf (ws.map (·.tk)) (placeAt (xs.map (·.tk)) k n) = .error q → ∀ e h' tk', Fly base fr e q .none h' → UpBut [r, rd] s.heap h' → E (.ref e) { s with heap := h', toks := tk' }) :
  wpAny (model prog w) A (call (.ref 273) [.ref r, .ref lw]) Q E s := by
  have hTw2 := fun (g : Heap) (kb : KeepBut [r, rd] s.heap g) => TokL.but hTw kb hi hd
  k_extra "m enter"
  case kbinds => exact [("reader", .ref r), ("words", .ref lw)]
  k_extra "m rd"
  have hTw' := hTw2 _ kb
  clear hTw hTw2
  have stop : StopComp := ⟨rfl⟩
  k_steps
  refine Hold.go (For_turns (by assumption) ?_ (by intro _; rfl) (Inside.pass IN))
  k_steps
  generalize hW : localGo (ws.map (·.tk)) 0 [] = W
  refine Hold.go (iter_rangeTurns (n := ws.length) rfl (by assumption) (by omega) (by assumption) (by assumption) fun I hI => ?_)
  refine for_rest (σ := Nat × List (Array UInt8 × Tok) × Nat) (fun c => [(l', PySem.W.listOf (bvals c.2.1).toArray c.2.2), (r, instObj 262 rd), (rd, rdDict w.params l k n T)]) (fun c => [("parts", .ref l'), ("words", .ref lw), ("reader", .ref r)])
    (fun rr c => rr = (rangeItems ws.length).drop c.1 ∧ localGo ((ws.drop c.1).map (·.tk)) c.1 (c.2.1.map (·.1)) = W ∧ c.1 ≤ ws.length ∧ c.2.1.length ≤ c.1 ∧ (flat c.2.1).size ≤ 1000 * c.1)
    I "range_iterator" [] (fun c => trivial) (fun c p hp => by
      rcases List.mem_cons.mp hp with rfl | hp
      · exact list_cls2 (by decide)
      · rcases List.mem_cons.mp hp with rfl | hp
        · exact fun e => Value.noConfusion e
        · rw [List.mem_singleton.mp hp]; intro e; injection e with e; revert e; decide) ?_ ?_ _ (0, [], 0) _ _ ⟨rfl, hW, Nat.zero_le _, Nat.zero_le _, by simp [flat]⟩ ⟨rfl, rfl, rfl, trivial⟩ (fun p hp => hp)
  · have hIl : @Ne Nat I l' := Nat.ne_of_gt (hI _ (.head _))
    have hIr : @Ne Nat I r := Nat.ne_of_gt (hI _ (.tail _ (.head _)))
    have hId : @Ne Nat I rd := Nat.ne_of_gt (hI _ (.tail _ (.tail _ (.head _))))
    refine fun a rr => pr3 fun i acc ep u₁ h tk v o => an5 fun hr hp1 hp2 hp3 hp4 hv F' N' => ?_
    dsimp only at hr hp1 hp2 hp3 hp4 F' N'
    obtain ⟨hil, rfl, hrr⟩ := range_item hr
    obtain ⟨ti, rfl⟩ := hv
    have hd2 : ws.drop i = ws[i] :: ws.drop (i + 1) := List.drop_eq_getElem_cons hil
    rw [hd2, List.map_cons, localGo] at hp1
    (try dsimp only)
    k_steps
    all_goals (have hxe : ws[i] = x9 := Option.some.inj ((List.getElem?_eq_getElem hil).symm.trans hx9); rw [hxe] at hp1; clear hxe hd2)
    · rename ((_ : Bool) != _) = true => h1
      rw [if_pos (by unfold notLocal; rw [h1]; rfl)] at hp1
      k_extra "m raised"
      refine hE _ ?_ _ _ _ x₂ (UpBut.of (kept kb (by assumption)) u₂)
      rw [localOf, hW, ← hp1]
    · rename ((_ : Bool) != _) = false => h1
      rename (x9.tk.kind.str == Str.ofString "literal") = true => h2
      rw [if_pos (by unfold notLocal; rw [h1, h2]; rfl)] at hp1
      k_extra "m raised"
      refine hE _ ?_ _ _ _ x₂ (UpBut.of (kept kb (by assumption)) u₂)
      rw [localOf, hW, ← hp1]
    · rename ((_ : Bool) != _) = false => h1
      rename (x9.tk.kind.str == Str.ofString "literal") = false => h2
      rw [if_neg (by unfold notLocal; rw [h1, h2]; decide)] at hp1
      have hxw := hwz x9 hm9
      k_extra "m turn"
      exact FEnd.intro (i + 1, acc ++ [(x9.tk.worth, x9.u2)], ep + 1) (by assumption) (by assumption) (.head _) (fun p hp => by dsimp only at hp; rw [← bvals_push] at hp; exact .tail _ hp) ⟨hrr, by dsimp only; rw [List.map_append]; exact hp1, by dsimp only; omega, by rw [List.length_append]; dsimp only [List.length]; omega, by rw [flat_push, Array.size_append]; dsimp only; omega⟩ ⟨rfl, rfl, rfl, trivial⟩
  · refine pr3 fun i acc ep u₁ h tk => an5 fun hr hp1 hp2 hp3 hp4 F' N' => ?_
    dsimp only at hr hp1 hp2 hp3 hp4 F' N'
    have hii : i = ws.length := by
      have := congrArg List.length hr
      simp [rangeItems] at this; omega
    subst hii
    rw [List.drop_length, List.map_nil, localGo] at hp1
    (try dsimp only)
    k_steps
    · k_extra "m raised"
      refine hE _ ?_ _ _ _ x₂ (UpBut.of (kept kb (by assumption)) u₂)
      rw [localOf, hW, ← hp1]
      dsimp only
      rw [len_tk, if_pos (by assumption)]
    · k_extra "m ro"
      refine hret _ ?_ (by rw [textOf_len]; omega) _ _ _ kro
      rw [localOf, hW, ← hp1]
      dsimp only
      rw [len_tk, if_neg (by assumption), flat_eq]
      rfl
end
theorem setup_local : True := by
  k_with "m call" => ((with_reducible show wpAny _ _ (call (Value.ref 273) _ _) _ _ _); (try dsimp only); k_extra "m names"; k_dflt (refine' c_local_of G (Inside.below IN kF) (Room.less hR' (by k_extra "m om")) ?kC ?ki ?kd ?kT ?kx ?kw ?kl ?kz ?_ ?_); (case ki => exact (kN (_, _) (by k_mem)).1); (case kd => exact (kN (_, _) (by k_mem)).1); (case kC => exact RdC.push C kN (by k_mem) (by k_mem)); (case kT => k_extra "m toks"); (case kx => k_extra "m om"); (case kw => k_extra "m toks"); (case kl => k_extra "m wl"); (case kz => k_extra "m wz"); rotate_left 1; (intro q hq e' h' tk' x' u'; k_extra "m he"); rotate_right 1; (intro o9 ho9 hz9 t9 h' tk' kk'; k_extra "m after"))
  trivial

-- 27_domain
noncomputable def svals (xs : List (Str × Tok)) : List Value := xs.map fun x => .str x.1 x.2
theorem svals_push {xs : List (Str × Tok)} {o : Str} {t : Tok} : (svals xs).toArray.push (.str o t) = (svals (xs ++ [(o, t)])).toArray := by simp [svals]
theorem svals_size {xs : List (Str × Tok)} (h : xs.length ≤ 100000) : (svals xs).toArray.size ≤ sizeLine := by simp [svals, sizeLine_eq]; omega
theorem svals_are : ∀ (xs : List (Str × Tok)), StrsAre (svals xs) (xs.map (·.1))
  | [] => .nil
  | (x, t) :: r => .cons x t (svals_are r)
theorem sum_le {c : Nat} : ∀ {l : List Str}, (∀ x ∈ l, x.length ≤ c) → (l.map (·.length)).sum ≤ c * l.length
  | [], _ => Nat.zero_le _
  | x :: r, h => by
    have a := h x (.head _)
    have b := sum_le (c := c) (l := r) fun y hy => h y (.tail _ hy)
    rw [List.map_cons, List.sum_cons, List.length_cons, Nat.mul_succ]
    omega
noncomputable def domLoop (ts : List Tk) (n : Nat) : Nat → Nat → List Str → Except Int (Str × Nat)
  | 0, _, _ => .error (-1)
  | f + 1, k, acc =>
    if (kindAt ts k != Str.ofString "atom") = true then .error (placeAt ts k n)
    else match ts[k]? with
      | none => .error (-1)
      | some t => if standsAt ts (k + 1) #[46] = true then domLoop ts n f (k + 2) (acc ++ [textOf t.worth]) else .ok (Txt.join (Str.ofString ".") (acc ++ [textOf t.worth]), k + 1)
noncomputable def domainOf (ts : List Tk) (n k : Nat) : Except Int (Str × Nat) :=
  if (kindAt ts k == Str.ofString "literal") = true then (match ts[k]? with
    | none => .error (-1)
    | some t => .ok (Str.ofString "[" ++ textOf t.worth ++ Str.ofString "]", k + 1))
  else domLoop ts n (ts.length + 1) k []
theorem stands_lt {xs : List TkA} {k : Nat} {sg : Array UInt8} (h : standsAt (xs.map (·.tk)) k sg = true) : k < xs.length := by
  by_cases hl : k < xs.length
  · exact hl
  · unfold standsAt at h
    rw [get_none (by omega)] at h
    cases h
theorem kind_lt2 {xs : List TkA} {k : Nat} {c : Str} (h : (kindAt (xs.map (·.tk)) k != c) = false) (hc : (Str.ofString "" == c) = false) : k < xs.length := kind_lt (by simpa using h) hc
theorem len_snoc {acc : List (Str × Tok)} {o : Str} {t : Tok} (h : ∀ x ∈ acc.map (·.1), x.length ≤ 999) (ho : o.length ≤ 999) : ∀ x ∈ (acc ++ [(o, t)]).map (·.1), x.length ≤ 999 := by
  intro x hx
  rw [List.map_append, List.mem_append] at hx
  rcases hx with hx | hx
  · exact h x hx
  · rw [List.map_cons, List.map_nil, List.mem_singleton] at hx
    rw [hx]; exact ho
theorem dot_len : (Str.ofString ".").length = 1 := by decide +kernel
section
variable {prog : Program} {w : World}
  {A : Around} {base : Heap} {fr : List Env} {s : Shared} {Q : Value → Shared → Prop} {E : Value → Shared → Prop}
theorem setup_dom0 : True := by
  k_with "m stradd" => (k_dflt (refine SB.add ?_ (by have h8 := hwz x9 hm9; simp only [sizeLine_eq, Str.length_append, textOf_len, len_missing, len_lb, len_rb]; k_extra "m om")); intro t8' k8'; (try dsimp only))
  k_with "m lt" => (exact kind_lt2 (by assumption) (by decide +kernel))
  k_with "m size" => ((with_reducible refine svals_size ?_); k_extra "m om")
  trivial
theorem c_domain_of {r rd l : Addr} {xs : List TkA} {k n : Nat} {T : RT} (G : Gr w base) (B : Below A base fr s.heap) (hR : Room A 6) (C : RdC base fr r rd) (hi : s.heap.get? r = some (instObj 262 rd)) (hd : s.heap.get? rd = some (rdDict w.params l k n T)) (hT : TokL s.heap l xs) (hx : xs.length ≤ 999) (hk : k ≤ xs.length) (hwz : ∀ x ∈ xs, x.tk.worth.size ≤ 999 ∧ x.tk.place ≤ 999)
  (hret : ∀ o j, domainOf (xs.map (·.tk)) n k = .ok (o, j) → j ≤ xs.length → k < j → ∀ t1 T' h' tk', KeepBut [rd] s.heap h' → h'.get? rd = some (rdDict w.params l j n T') → Q (.str o t1) { s with heap := h', toks := tk' })
  (hE : ∀ q, domainOf (xs.map (·.tk)) n k = .error q → ∀ e h' tk', Fly base fr e q .none h' → UpBut [r, rd] s.heap h' → E (.ref e) { s with heap := h', toks := tk' }) :
  wpAny (model prog w) A (call (.ref 280) [.ref r]) Q E s := by
  k_extra "m enter"
  case kbinds => exact [("reader", .ref r)]
  k_extra "m rd"
  generalize hW : domainOf (xs.map (·.tk)) n k = W at hret hE
  unfold domainOf at hW
  k_steps
  · rename (kindAt _ _ == _) = true => hk1
    rw [if_pos hk1, get_some hx9] at hW
    have hkl := kind_lt hk1 (by decide +kernel)
    k_extra "m out"
    rename News _ _ _ _ => N9
    rename Fr _ _ _ _ => F9
    exact hret _ _ hW.symm (by omega) (by omega) _ _ _ _ (kept_mut kb F9 N9 (hM9 _ (.head _)) (.head _)) (N9 _ (.tail _ (.head _))).1
  · rename (kindAt _ _ == _) = false => hk1
    rw [if_neg (no_true hk1), len_tk] at hW
    refine Hold.go ?_
    refine while_own (σ := Nat × Nat × RT × List (Str × Tok) × Nat) (fun c => [(l', PySem.W.listOf (svals c.2.2.2.1).toArray c.2.2.2.2), (r, instObj 262 rd), (rd, rdDict w.params l c.2.1 n c.2.2.1)]) (fun c => [("parts", .ref l'), ("reader", .ref r)])
      (fun c => domLoop (xs.map (·.tk)) n c.1 c.2.1 (c.2.2.2.1.map (·.1)) = W ∧ xs.length < c.2.1 + c.1 ∧ k ≤ c.2.1 ∧ c.2.1 ≤ xs.length ∧ c.2.2.2.1.length ≤ c.2.1 ∧ (∀ x ∈ c.2.2.2.1.map (·.1), x.length ≤ 999)) (fun c => c.1) (xs.length + 1, k, T, [], 0) (by assumption) (by assumption) (fun p hp => hp) ⟨hW, by dsimp only; omega, Nat.le_refl _, hk, Nat.zero_le _, fun _ h => nomatch h⟩ ⟨rfl, rfl, trivial⟩ ?_ (Inside.pass IN)
    refine pr5 fun f j Tj acc ep u₁ h tk2 => an6 fun hp1 hp2 hp3 hp4 hp5 hp6 F' N' => ?_
    dsimp only at hp1 hp2 hp3 hp4 hp5 hp6 F' N'
    obtain ⟨f', rfl⟩ : ∃ f', f = f' + 1 := by first | exact fuel (by assumption) (by assumption) | exact fuel2 (by assumption) (by assumption) | exact ⟨f - 1, by omega⟩
    rw [domLoop] at hp1
    (try dsimp only)
    k_steps
    · rename (kindAt _ _ != _) = true => h1
      rw [if_pos h1] at hp1
      k_extra "m raised"
      exact hE _ hp1.symm _ _ _ x₂ (UpBut.of (kept kb (by assumption)) u₂)
    · rename (kindAt _ _ != _) = false => h1
      have hjl := stands_lt hs9
      have h8 := hwz x9 hm9
      rw [if_neg (no_true h1), get_some hx9] at hp1
      dsimp only at hp1
      rw [if_pos hs9] at hp1
      k_extra "m turn"
      rename News _ _ _ _ => N9
      rw [svals_push] at N9
      exact WEnd.intro (f', j + 1 + 1, T9, acc ++ [(textOf x9.tk.worth, _)], ep + 1) (by assumption) N9 (fun p hp => hp) ⟨by rw [List.map_append]; exact hp1, by dsimp only; omega, by dsimp only; omega, by dsimp only; omega, by rw [List.length_append]; dsimp only [List.length]; omega, len_snoc hp6 (by rw [textOf_len]; omega)⟩ (Nat.lt_succ_self _) ⟨rfl, rfl, trivial⟩
    · rename (kindAt _ _ != _) = false => h1
      have hjl : j < xs.length := kind_lt2 h1 (by decide +kernel)
      have h8 := hwz x9 hm9
      rw [if_neg (no_true h1), get_some hx9] at hp1
      dsimp only at hp1
      rw [if_neg (no_true hs9)] at hp1
      rename News _ _ _ _ => N9
      rename Fr _ _ _ _ => F9
      rw [svals_push] at N9
      refine join_list (News.isList N9 (.head _)) (svals_are _) (Nat.le_trans (Nat.add_le_add_right (sum_le (c := 999) (len_snoc hp6 (by rw [textOf_len]; omega))) _) (by rw [List.length_map, List.length_append, dot_len]; dsimp only [List.length]; omega)) ?_
      intro t8 k8
      dsimp only [WPost]
      k_extra "m out"
      exact hret _ _ (by rw [List.map_append]; exact hp1.symm) (by omega) (by omega) _ _ _ _ (kept_mut kb (by assumption) N9 (hM9 _ (.head _)) (.tail _ (.head _))) (N9 _ (.tail _ (.tail _ (.head _)))).1
end
theorem setup_dom : True := by
  k_with "m stradd" => (k_dflt (refine SB.add ?_ (by have h8 := hwz x9 hm9; simp only [sizeLine_eq, Str.length_append, textOf_len, len_missing, len_lb, len_rb]; k_extra "m om")); intro t8' k8'; (try dsimp only))
  k_with "m lt" => (exact kind_lt2 (by assumption) (by decide +kernel))
  k_with "m size" => ((with_reducible refine svals_size ?_); k_extra "m om")
  k_with "m call" => ((with_reducible show wpAny _ _ (call (Value.ref 280) _ _) _ _ _); (try dsimp only); k_extra "m names"; k_dflt (refine' c_domain_of G (Inside.below IN kF) (Room.less hR' (by k_extra "m om")) ?kC ?ki ?kd ?kT ?kx ?kk hwz ?_ ?_); (case ki => exact (kN (_, _) (by k_mem)).1); (case kd => exact (kN (_, _) (by k_mem)).1); (case kC => exact RdC.push C kN (by k_mem) (by k_mem)); (case kT => k_extra "m toks"); (case kx => k_extra "m om"); (case kk => first | k_extra "m om" | (have hlt9 := stands_lt hs9; k_extra "m om")); rotate_left 1; (intro q hq e' h' tk' x' u'; k_extra "m he"); rotate_right 1; (intro o9 j9 ho9 hj9 hk9 t9 T9 h' tk' kk' hd'; (try dsimp only at kk'); have nf' := News.turn kF kN (by k_upd) kk' hd'; have F' := nf'.1; have N' := nf'.2; clear nf' kF kN kk' hd'; (try dsimp only)))
  trivial

-- 28_route
noncomputable def routeLoop (ts : List Tk) (n : Nat) : Nat → Nat → Except Int Nat
  | 0, _ => .error (-1)
  | f + 1, k =>
    if standsAt ts k #[58] = true then .ok (k + 1)
    else if standsAt ts k #[44] = true then routeLoop ts n f (k + 1)
    else if standsAt ts k #[64] = true then (match domainOf ts n (k + 1) with
      | .error q => .error q
      | .ok (_, j) => routeLoop ts n f j)
    else .error (placeAt ts k n)
noncomputable def routeOf (ts : List Tk) (n k : Nat) : Except Int Nat :=
  if (!standsAt ts k #[64] && !standsAt ts k #[44]) = true then .ok k else routeLoop ts n (ts.length + 1) k
section
variable {prog : Program} {w : World}
  {A : Around} {base : Heap} {fr : List Env} {s : Shared} {Q : Value → Shared → Prop} {E : Value → Shared → Prop}
theorem c_pass_route {r rd l : Addr} {xs : List TkA} {k n : Nat} {T : RT} (G : Gr w base) (B : Below A base fr s.heap) (hR : Room A 8) (C : RdC base fr r rd) (hi : s.heap.get? r = some (instObj 262 rd)) (hd : s.heap.get? rd = some (rdDict w.params l k n T)) (hT : TokL s.heap l xs) (hx : xs.length ≤ 999) (hk : k ≤ xs.length) (hwz : ∀ x ∈ xs, x.tk.worth.size ≤ 999 ∧ x.tk.place ≤ 999)
  (hret : ∀ j, routeOf (xs.map (·.tk)) n k = .ok j → j ≤ xs.length → k ≤ j → ∀ T' h' tk', KeepBut [rd] s.heap h' → h'.get? rd = some (rdDict w.params l j n T') → Q .none { s with heap := h', toks := tk' })
  (hE : ∀ q, routeOf (xs.map (·.tk)) n k = .error q → ∀ e h' tk', Fly base fr e q .none h' → UpBut [r, rd] s.heap h' → E (.ref e) { s with heap := h', toks := tk' }) :
  wpAny (model prog w) A (call (.ref 287) [.ref r]) Q E s := by
  k_extra "m enter"
  case kbinds => exact [("reader", .ref r)]
  k_extra "m rd"
  generalize hW : routeOf (xs.map (·.tk)) n k = W at hret hE
  unfold routeOf at hW
  have stopB : StopBool := ⟨rfl⟩
  k_steps
  refine Hold.go (cutAt (σ := Unit) (by assumption) (fun _ => [(r, instObj 262 rd), (rd, rdDict w.params l k n T)]) (fun _ => [("reader", .ref r)]) (fun v _ => v = (!standsAt (xs.map (·.tk)) k #[64] && !standsAt (xs.map (·.tk)) k #[44])) ?_ ?_)
  · (rename StopBool => st0; clear st0)
    k_steps
    · exact Cut.intro () (by assumption) (by assumption) (by rename standsAt _ _ _ = true => h1; rw [h1]; rfl) (fun p hp => hp) ⟨rfl, trivial⟩
    · exact Cut.intro () (by assumption) (by assumption) (by rename standsAt _ _ _ = true => h1; rename standsAt _ _ _ = false => h2; rw [h1, h2]; rfl) (fun p hp => hp) ⟨rfl, trivial⟩
    · exact Cut.intro () (by assumption) (by assumption) (by rename standsAt _ _ #[44] = false => h1; rename standsAt _ _ #[64] = false => h2; rw [h1, h2]; rfl) (fun p hp => hp) ⟨rfl, trivial⟩
  · rintro v _ u₂ h' tk' hv F' N'
    (rename StopBool => st0; clear st0)
    rw [← hv] at hW
    cases v with
    | true =>
      rw [if_pos rfl] at hW
      simp only [if_true]
      k_steps
      dsimp only
      k_extra "m out"
      rename News _ _ _ _ => N9
      rename Fr _ _ _ _ => F9
      exact hret k hW.symm hk (Nat.le_refl _) T _ _ (kept_mut kb F9 N9 (hM9 _ (.head _)) (.head _)) (N9 _ (.tail _ (.head _))).1
    | false =>
      rw [if_neg (by decide), len_tk] at hW
      simp only [Bool.false_eq_true, if_false]
      k_steps
      refine Hold.go ?_
      refine while_own (σ := Nat × Nat × RT) (fun c => [(r, instObj 262 rd), (rd, rdDict w.params l c.2.1 n c.2.2)]) (fun c => [("reader", .ref r)])
        (fun c => routeLoop (xs.map (·.tk)) n c.1 c.2.1 = W ∧ xs.length < c.2.1 + c.1 ∧ k ≤ c.2.1 ∧ c.2.1 ≤ xs.length) (fun c => c.1) (xs.length + 1, k, T) (by assumption) (by assumption) (fun p hp => hp) ⟨hW, by dsimp only; omega, Nat.le_refl _, hk⟩ ⟨rfl, trivial⟩ ?_ (Inside.pass IN)
      refine pr3 fun f j Tj u₁ h tk2 => an4 fun hp1 hp2 hp3 hp4 F' N' => ?_
      dsimp only at hp1 hp2 hp3 hp4 F' N'
      obtain ⟨f', rfl⟩ : ∃ f', f = f' + 1 := by first | exact fuel (by assumption) (by assumption) | exact fuel2 (by assumption) (by assumption) | exact ⟨f - 1, by omega⟩
      rw [routeLoop] at hp1
      (try dsimp only)
      k_steps
      · rw [if_pos hs9] at hp1
        have hjl := stands_lt hs9
        refine Inside.fall IN ?_
        rename News _ _ _ _ => N9
        rename Fr _ _ _ _ => F9
        exact hret _ hp1.symm (by omega) (by omega) _ _ _ (kept_mut kb F9 N9 (hM9 _ (.head _)) (.head _)) (N9 _ (.tail _ (.head _))).1
      all_goals (rename standsAt _ _ #[58] = false => h1; rw [if_neg (no_true h1)] at hp1)
      · have hjl := stands_lt hs9
        rw [if_pos hs9] at hp1
        k_extra "m turn"
        exact WEnd.intro (f', j + 1, T9) (by assumption) (by assumption) (fun p hp => hp) ⟨hp1, by dsimp only; omega, by dsimp only; omega, by dsimp only; omega⟩ (Nat.lt_succ_self _) ⟨rfl, trivial⟩
      all_goals (rename standsAt _ _ #[44] = false => h2; rw [if_neg (no_true h2)] at hp1)
      · have hjl := stands_lt hs9
        rw [if_pos hs9, ho9] at hp1
        k_extra "m turn"
        exact WEnd.intro (f', j9, T9) (by assumption) (by assumption) (fun p hp => hp) ⟨hp1, by dsimp only; omega, by dsimp only; omega, by dsimp only; omega⟩ (Nat.lt_succ_self _) ⟨rfl, trivial⟩
      · rw [if_pos hs9, hq] at hp1
        exact hE _ hp1.symm _ _ _ x₂ U'
      · rw [if_neg (no_true hs9)] at hp1
        exact hE _ hp1.symm _ _ _ x₂ U'
end
theorem setup_route : True := by
  k_with "m call" => ((with_reducible show wpAny _ _ (call (Value.ref 287) _ _) _ _ _); (try dsimp only); k_extra "m names"; k_dflt (refine' c_pass_route G (Inside.below IN kF) (Room.less hR' (by k_extra "m om")) ?kC ?ki ?kd ?kT ?kx ?kk hwz ?_ ?_); (case ki => exact (kN (_, _) (by k_mem)).1); (case kd => exact (kN (_, _) (by k_mem)).1); (case kC => exact RdC.push C kN (by k_mem) (by k_mem)); (case kT => k_extra "m toks"); (case kx => k_extra "m om"); (case kk => first | k_extra "m om" | (have hlt9 := stands_lt hs9; k_extra "m om")); rotate_left 1; (intro q hq e' h' tk' x' u'; k_extra "m he"); rotate_right 1; (intro j9 ho9 hj9 hk9 T9 h' tk' kk' hd'; (try dsimp only at kk'); have nf' := News.turn kF kN (by k_upd) kk' hd'; have F' := nf'.1; have N' := nf'.2; clear nf' kF kN kk' hd'; (try dsimp only)))
  trivial

-- 29_mailbox
structure MT where
  t1 : Tok
  t2 : Tok
  t3 : Tok
  u1 : Tok
  u2 : Tok
  u3 : Tok
noncomputable abbrev mbDict (P : Params) (a b c : Str) (T : MT) : Obj := dictOf [⟨PyData.keyHash P "name", .str "name" T.t1, .str a T.u1⟩, ⟨PyData.keyHash P "local", .str "local" T.t2, .str b T.u2⟩, ⟨PyData.keyHash P "domain", .str "domain" T.t3, .str c T.u3⟩] 3
structure GT where
  t1 : Tok
  t2 : Tok
  u1 : Tok
noncomputable abbrev gpDict (P : Params) (a : Str) (l : Addr) (T : GT) : Obj := dictOf [⟨PyData.keyHash P "name", .str "name" T.t1, .str a T.u1⟩, ⟨PyData.keyHash P "members", .str "members" T.t2, .ref l⟩] 2
section
variable {prog : Program} {w : World}
  {A : Around} {base : Heap} {fr : List Env} {s : Shared} {Q : Value → Shared → Prop} {E : Value → Shared → Prop}
theorem c_mailbox_new {a b c : Str} {u1 u2 u3 : Tok} (G : Gr w base) (B : Below A base fr s.heap) (hR : Room A 4)
  (hret : ∀ r rd T h' tk', Keep s.heap h' → NewIn s.heap h' [(r, instObj 154 rd), (rd, mbDict w.params a b c T)] → @Ne Nat r rd → Q (.ref r) { s with heap := h', toks := tk' }) :
  wpAny (model prog w) A (call (.ref 154) [.str a u1, .str b u2, .str c u3]) Q E s := by
  refine make_own (n := 3) G B hR (by k_is) (by k_is) (by k_is) fun A' x dx h' kk' nw hne B' hR' hO => ?_
  clear hR
  have hR := hR'
  clear hR'
  have hb0 : ∀ q ∈ [(x, instObj 154 dx), (dx, emptyDict)], h'.get? q.1 = some q.2 ∧ base.get? q.1 = none := fun q hq => ⟨(nw q hq).2, base_none B (nw q hq).1⟩
  clear B
  k_extra "m enterc"
  case kbinds => exact [("self", .ref x), ("name", .str a u1), ("local", .str b u2), ("domain", .str c u3)]
  case kM => exact [(x, instObj 154 dx), (dx, emptyDict)]
  case kN => exact hb0
  case kO => exact hO
  k_extra "m in"
  k_steps
  (try dsimp only)
  refine Inside.fall IN ⟨rfl, ?_⟩
  rename News _ _ _ _ => N9
  rename Fr _ _ _ _ => F9
  exact hret _ _ ⟨_, _, _, _, _, _⟩ _ _ (keep_made kk' nw (kept kb F9)) (newIn_made nw N9 _ fun q hq => ⟨hq, by
    rcases List.mem_cons.mp hq with rfl | hq
    · exact ⟨_, .head _, rfl⟩
    · rw [List.mem_singleton.mp hq]; exact ⟨_, .tail _ (.head _), rfl⟩⟩) hne
theorem c_group_new {a : Str} {l : Addr} {u1 : Tok} (G : Gr w base) (B : Below A base fr s.heap) (hR : Room A 4)
  (hret : ∀ r rd T h' tk', Keep s.heap h' → NewIn s.heap h' [(r, instObj 180 rd), (rd, gpDict w.params a l T)] → @Ne Nat r rd → Q (.ref r) { s with heap := h', toks := tk' }) :
  wpAny (model prog w) A (call (.ref 180) [.str a u1, .ref l]) Q E s := by
  refine make_own (n := 3) G B hR (by k_is) (by k_is) (by k_is) fun A' x dx h' kk' nw hne B' hR' hO => ?_
  clear hR
  have hR := hR'
  clear hR'
  have hb0 : ∀ q ∈ [(x, instObj 180 dx), (dx, emptyDict)], h'.get? q.1 = some q.2 ∧ base.get? q.1 = none := fun q hq => ⟨(nw q hq).2, base_none B (nw q hq).1⟩
  clear B
  k_extra "m enterc"
  case kbinds => exact [("self", .ref x), ("name", .str a u1), ("some", .ref l)]
  case kM => exact [(x, instObj 180 dx), (dx, emptyDict)]
  case kN => exact hb0
  case kO => exact hO
  k_extra "m in"
  k_steps
  (try dsimp only)
  refine Inside.fall IN ⟨rfl, ?_⟩
  rename News _ _ _ _ => N9
  rename Fr _ _ _ _ => F9
  exact hret _ _ ⟨_, _, _⟩ _ _ (keep_made kk' nw (kept kb F9)) (newIn_made nw N9 _ fun q hq => ⟨hq, by
    rcases List.mem_cons.mp hq with rfl | hq
    · exact ⟨_, .head _, rfl⟩
    · rw [List.mem_singleton.mp hq]; exact ⟨_, .tail _ (.head _), rfl⟩⟩) hne
end
theorem setup_mailbox : True := by
  k_with "m call" => ((with_reducible show wpAny _ _ (call (Value.ref 130) _ _) _ _ _); (try dsimp only); k_extra "m names"; k_dflt (refine' c_phrase_of G (Inside.below IN kF) (Room.less hR' (by k_extra "m om")) ?kTp ?kxp ?kzp ?_ ?_); (case kTp => k_extra "m toks"); (case kxp => k_extra "m wl"); (case kzp => k_extra "m wz"); rotate_left 1; (intro q hq e' h' tk' x' u'; k_extra "m he"); rotate_right 1; (intro o9 ho9 hz9 t9 h' tk' kk'; k_extra "m after"))
  k_with "m call" => ((with_reducible show wpAny _ _ (call (Value.ref 154) _ _) _ _ _); (try dsimp only); k_extra "m names"; k_dflt (refine' c_mailbox_new G (Inside.below IN kF) (Room.less hR' (by k_extra "m om")) ?_); (intro mr9 md9 mt9 h' tk' kk' nw9 ne9'; dsimp only at kk' nw9; have nea9 := News.ne kN (nw9 _ (.head _)).1; have neb9 := News.ne kN (nw9 _ (.tail _ (.head _))).1; simp only [AllNe, and_true] at nea9 neb9; have N' := News.plus kF kN kk' nw9; have F' := Fr.keepAll kF kk'; (try simp only [List.nil_append, List.cons_append] at N'); clear kF kN kk'; (try dsimp only)))
  k_with "m call" => ((with_reducible show wpAny _ _ (call (Value.ref 180) _ _) _ _ _); (try dsimp only); k_extra "m names"; k_dflt (refine' c_group_new G (Inside.below IN kF) (Room.less hR' (by k_extra "m om")) ?_); (intro mr9 md9 mt9 h' tk' kk' nw9 ne9'; dsimp only at kk' nw9; have nea9 := News.ne kN (nw9 _ (.head _)).1; have neb9 := News.ne kN (nw9 _ (.tail _ (.head _))).1; simp only [AllNe, and_true] at nea9 neb9; have N' := News.plus kF kN kk' nw9; have F' := Fr.keepAll kF kk'; (try simp only [List.nil_append, List.cons_append] at N'); clear kF kN kk'; (try dsimp only)))
  trivial

-- 30_readmb
noncomputable def mailboxRest (ts : List Tk) (n : Nat) (name : Str) (ws : List Tk) (k : Nat) (angle : Bool) : Except Int (Str × Str × Str × Nat) :=
  match localOf ws (placeAt ts k n) with
  | .error q => .error q
  | .ok loc =>
    if standsAt ts k #[64] = true then (match domainOf ts n (k + 1) with
      | .error q => .error q
      | .ok (dom, j) =>
        if angle = true then (if standsAt ts j #[62] = true then .ok (name, loc, dom, j + 1) else .error (placeAt ts j n))
        else .ok (name, loc, dom, j))
    else .error (placeAt ts k n)
noncomputable def mailboxOf (ts : List Tk) (n : Nat) (ws : List Tk) (k : Nat) : Except Int (Str × Str × Str × Nat) :=
  if standsAt ts k #[60] = true then (match phraseOf (ws.filter (fun t => t.kind != .comment)) with
    | .error q => .error q
    | .ok o => match routeOf ts n (k + 1) with
      | .error q => .error q
      | .ok j => mailboxRest ts n (textOf o) ((ts.drop j).take (wordsTo ts j - j)) (wordsTo ts j) true)
  else mailboxRest ts n (Str.ofString "") ws k false
theorem filter_tk {ws : List TkA} : (ws.filter notComment).map (·.tk) = (ws.map (·.tk)).filter (fun t => t.kind != .comment) := by
  rw [List.filter_map]; rfl
theorem span_map {xs : List TkA} {i j : Nat} : (span xs i j).map (·.tk) = ((xs.map (·.tk)).drop i).take (j - i) := by
  unfold span; rw [List.map_take, List.map_drop]
theorem span_le {xs : List TkA} {i j : Nat} (h : xs.length ≤ 999) : (span xs i j).length ≤ 999 := by
  unfold span; rw [List.length_take, List.length_drop]; omega
theorem TokL.spanIn {g h : Heap} {L l lw : Addr} {xs : List TkA} {i j ep : Nat} {nx : List (Addr × Obj)} (T : TokL h l xs) (N : News g L h nx) (hm : (lw, listOf (refsT (span xs i j)).toArray ep) ∈ nx) : TokL h lw (span xs i j) :=
  ⟨⟨_, (N _ hm).1, rfl, ep, rfl⟩, fun x hx => T.tok x (span_mem hx)⟩
theorem wordsTo_ge {ts : List Tk} {k : Nat} (h : k ≤ ts.length) : k ≤ wordsTo ts k := (wordEnd_le h).1
theorem wordsTo_of {ts : List Tk} {e : Except Int Nat} {k : Nat} (_ : e = .ok k) (h : k ≤ ts.length) : k ≤ wordsTo ts k := (wordEnd_le h).1
theorem newIn_two {g h h' : Heap} {L r rd a b : Addr} {o1 o2 : Obj} {nx : List (Addr × Obj)} (kb : KeepBut [r, rd] h g) (N : News g L h' nx) (h1 : (a, o1) ∈ nx) (h2 : (b, o2) ∈ nx) (n1 : @Ne Nat r a ∧ @Ne Nat rd a) (n2 : @Ne Nat r b ∧ @Ne Nat rd b) : NewIn h h' [(a, o1), (b, o2)] := fun q hq => by
  have f : ∀ c oc, (c, oc) ∈ nx → @Ne Nat r c ∧ @Ne Nat rd c → h.get? c = none ∧ h'.get? c = some oc := fun c oc hc hn => ⟨fresh0 kb N hc (by
    intro hm
    rcases List.mem_cons.mp hm with e | hm
    · exact hn.1 e.symm
    · exact hn.2 (List.mem_singleton.mp hm).symm), (N _ hc).1⟩
  rcases List.mem_cons.mp hq with rfl | hq
  · exact f _ _ h1 n1
  · rw [List.mem_singleton.mp hq]; exact f _ _ h2 n2
section
variable {prog : Program} {w : World}
  {A : Around} {base : Heap} {fr : List Env} {s : Shared} {Q : Value → Shared → Prop} {E : Value → Shared → Prop}
theorem setup_readmb0 : True := by
  k_with "m toks" => (refine TokL.spanIn (TokL.keep hT' (Fr.keep kF)) kN (by k_mem))
  k_with "m wl" => (with_reducible (first | assumption | exact span_le (by assumption)))
  k_with "m wz" => (with_reducible (first | assumption | exact fun x hx => hwz x (span_mem hx)))
  trivial
theorem c_read_mailbox {lw : Addr} {ws : List TkA} {r rd l : Addr} {xs : List TkA} {k n : Nat} {T : RT} (G : Gr w base) (B : Below A base fr s.heap) (hR : Room A 9) (C : RdC base fr r rd) (hi : s.heap.get? r = some (instObj 262 rd)) (hd : s.heap.get? rd = some (rdDict w.params l k n T)) (hT : TokL s.heap l xs) (hx : xs.length ≤ 999) (hk : k ≤ xs.length) (hwz : ∀ x ∈ xs, x.tk.worth.size ≤ 999 ∧ x.tk.place ≤ 999) (hTw : TokL s.heap lw ws) (hlw : ws.length ≤ 999) (hwz2 : ∀ x ∈ ws, x.tk.worth.size ≤ 999 ∧ x.tk.place ≤ 999)
  (hret : ∀ o1 o2 o3 j, mailboxOf (xs.map (·.tk)) n (ws.map (·.tk)) k = .ok (o1, o2, o3, j) → j ≤ xs.length → k < j → ∀ m md MT' T' h' tk', KeepBut [rd] s.heap h' → h'.get? rd = some (rdDict w.params l j n T') → NewIn s.heap h' [(m, instObj 154 md), (md, mbDict w.params o1 o2 o3 MT')] → @Ne Nat m md → Q (.ref m) { s with heap := h', toks := tk' })
  (hE : ∀ q, mailboxOf (xs.map (·.tk)) n (ws.map (·.tk)) k = .error q → ∀ e h' tk', Fly base fr e q .none h' → UpBut [r, rd] s.heap h' → E (.ref e) { s with heap := h', toks := tk' }) :
  wpAny (model prog w) A (call (.ref 294) [.ref r, .ref lw]) Q E s := by
  have hTw2 := fun (g : Heap) (kb : KeepBut [r, rd] s.heap g) => TokL.but hTw kb hi hd
  k_extra "m enter"
  case kbinds => exact [("reader", .ref r), ("words", .ref lw)]
  k_extra "m rd"
  have hTw' := hTw2 _ kb
  clear hTw hTw2
  generalize hW : mailboxOf (xs.map (·.tk)) n (ws.map (·.tk)) k = W at hret hE
  unfold mailboxOf at hW
  rw [← filter_tk] at hW
  k_steps
  all_goals ((first | rename standsAt _ _ #[60] = _ => h60 | have h60 := trivial); (first | rename phraseOf _ = _ => hph | have hph := trivial); (first | rename routeOf _ _ _ = _ => hro | have hro := trivial); (first | rename localOf _ _ = _ => hlo | have hlo := trivial); (first | rename domainOf _ _ _ = _ => hdo | have hdo := trivial); (first | rename standsAt _ _ #[64] = _ => h64 | have h64 := trivial); (first | rename standsAt _ _ #[62] = _ => h62 | have h62 := trivial))
  all_goals (simp only [mailboxRest, ← span_map, h60, hph, hro, hlo, hdo, h64, h62, if_true, Bool.false_eq_true, if_false] at hW)
  all_goals (try exact hE _ hW.symm _ _ _ x₂ U')
  all_goals (k_extra "m out"; rename News _ _ _ _ => N9; rename Fr _ _ _ _ => F9)
  · have hjl := stands_lt h62
    have hwg := wordsTo_of (ts := xs.map (·.tk)) hro (Nat.le_trans (by assumption) (Nat.le_of_eq len_tk.symm))
    exact hret _ _ _ _ hW.symm (by omega) (by omega) _ _ _ _ _ _ (kept_mut kb F9 N9 (hM9 _ (.head _)) (by k_mem)) (N9 _ (.tail _ (.tail _ (.head _)))).1 (newIn_two kb N9 (by k_mem) (by k_mem) nea9.2 neb9.2) ne9'
  · exact hret _ _ _ _ hW.symm (by omega) (by omega) _ _ _ _ _ _ (kept_mut kb F9 N9 (hM9 _ (.head _)) (by k_mem)) (N9 _ (.tail _ (.head _))).1 (newIn_two kb N9 (by k_mem) (by k_mem) nea9 neb9) ne9'
end
theorem setup_readmb : True := by
  k_with "m wl" => (with_reducible (first | assumption | exact span_le (by assumption)))
  k_with "m wz" => (with_reducible (first | assumption | exact fun x hx => hwz x (span_mem hx)))
  k_with "m toks" => (refine TokL.spanIn (TokL.keep hT' (Fr.keep kF)) kN (by k_mem))
  k_with "m call" => ((with_reducible show wpAny _ _ (call (Value.ref 294) _ _) _ _ _); (try dsimp only); k_extra "m names"; k_dflt (refine' c_read_mailbox G (Inside.below IN kF) (Room.less hR' (by k_extra "m om")) ?kC ?ki ?kd ?kT ?kx ?kk hwz ?kw ?kl ?kz ?_ ?_); (case ki => exact (kN (_, _) (by k_mem)).1); (case kd => exact (kN (_, _) (by k_mem)).1); (case kC => exact RdC.push C kN (by k_mem) (by k_mem)); (case kT => k_extra "m toks"); (case kx => k_extra "m om"); (case kk => k_extra "m om"); (case kw => k_extra "m toks"); (case kl => k_extra "m wl"); (case kz => k_extra "m wz"); rotate_left 1; (intro q hq e' h' tk' x' u'; k_extra "m he"); rotate_right 1; (intro o1' o2' o3' j9 ho9 hj9 hk9 mr9 md9 mt9 T9 h' tk' kk' hd' nw9 ne9'; (try dsimp only at kk' nw9); have nea9 := News.ne kN (nw9 _ (.head _)).1; have neb9 := News.ne kN (nw9 _ (.tail _ (.head _))).1; simp only [AllNe, and_true] at nea9 neb9; have nf' := News.turn kF kN (by k_upd) kk' hd'; have F' := nf'.1; have N1 := nf'.2; have N' := News.cons2 (News.cons1 kF kN N1 (nw9 _ (.tail _ (.head _))).1 (nw9 _ (.tail _ (.head _))).2) (News.cons1 kF kN N1 (nw9 _ (.head _)).1 (nw9 _ (.head _)).2); clear nf' N1 kF kN kk' hd'; (try dsimp only)))
  trivial

-- 31_place
inductive Pl where
  | mb (a b c : Str)
  | gp (name : Str) (ms : List (Str × Str × Str))
noncomputable def innerPlace (ts : List Tk) (n k : Nat) : Except Int (Str × Str × Str × Nat) :=
  if standsAt ts (wordsTo ts k) #[58] = true then .error (placeAt ts (wordsTo ts k) n)
  else mailboxOf ts n ((ts.drop k).take (wordsTo ts k - k)) (wordsTo ts k)
section
variable {prog : Program} {w : World}
  {A : Around} {base : Heap} {fr : List Env} {s : Shared} {Q : Value → Shared → Prop} {E : Value → Shared → Prop}
theorem c_place_inner {r rd l : Addr} {xs : List TkA} {k n : Nat} {T : RT} (G : Gr w base) (B : Below A base fr s.heap) (hR : Room A 10) (C : RdC base fr r rd) (hi : s.heap.get? r = some (instObj 262 rd)) (hd : s.heap.get? rd = some (rdDict w.params l k n T)) (hT : TokL s.heap l xs) (hx : xs.length ≤ 999) (hk : k ≤ xs.length) (hwz : ∀ x ∈ xs, x.tk.worth.size ≤ 999 ∧ x.tk.place ≤ 999)
  (hret : ∀ o1 o2 o3 j, innerPlace (xs.map (·.tk)) n k = .ok (o1, o2, o3, j) → j ≤ xs.length → k < j → ∀ m md MT' T' h' tk', KeepBut [rd] s.heap h' → h'.get? rd = some (rdDict w.params l j n T') → NewIn s.heap h' [(m, instObj 154 md), (md, mbDict w.params o1 o2 o3 MT')] → @Ne Nat m md → Q (.ref m) { s with heap := h', toks := tk' })
  (hE : ∀ q, innerPlace (xs.map (·.tk)) n k = .error q → ∀ e h' tk', Fly base fr e q .none h' → UpBut [r, rd] s.heap h' → E (.ref e) { s with heap := h', toks := tk' }) :
  wpAny (model prog w) A (call (.ref 301) [.ref r, .bool true]) Q E s := by
  k_extra "m enter"
  case kbinds => exact [("reader", .ref r), ("is_inner", .bool true)]
  k_extra "m rd"
  have hwl := wordEnd_le (ts := xs.map (·.tk)) (f := (xs.map (·.tk)).length + 1) (k := k) (Nat.le_trans hk (Nat.le_of_eq len_tk.symm))
  have hwl2 : wordsTo (xs.map (·.tk)) k ≤ xs.length := Nat.le_trans hwl.2 (Nat.le_of_eq len_tk)
  have hwg : k ≤ wordsTo (xs.map (·.tk)) k := hwl.1
  clear hwl
  generalize hW : innerPlace (xs.map (·.tk)) n k = W at hret hE
  unfold innerPlace at hW
  rw [← span_map] at hW
  k_steps
  · rename standsAt _ _ #[58] = true => h58
    rw [if_pos h58] at hW
    k_extra "m raised"
    exact hE _ hW.symm _ _ _ x₂ (UpBut.of (kept kb (by assumption)) u₂)
  all_goals (rename standsAt _ _ #[58] = false => h58; rw [if_neg (no_true h58)] at hW)
  · rw [hW] at ho9
    k_extra "m out"
    rename News _ _ _ _ => N9
    rename Fr _ _ _ _ => F9
    exact hret _ _ _ _ ho9 hj9 (by omega) _ _ _ _ _ _ (kept_mut kb F9 N9 (hM9 _ (.head _)) (by k_mem)) (N9 (rd, _) (by k_mem)).1 (newIn_two kb N9 (by k_mem) (by k_mem) nea9.2 neb9.2) ne9'
  · rw [hW] at hq
    exact hE _ hq _ _ _ x₂ U'
end


-- 32_list
/-- a mailbox or group that was made: its address, what it tells, its objects -/
structure EA where
  addr : Addr
  pl : Pl
  led : List (Addr × Obj)
noncomputable def refsE (es : List EA) : List Value := es.map fun e => .ref e.addr
noncomputable def ledE (es : List EA) : List (Addr × Obj) := es.flatMap (·.led)
inductive EOk (P : Params) : Bool → EA → Prop
  | mb {b : Bool} (m md : Addr) (a1 b1 c1 : Str) (T : MT) : @Ne Nat m md → EOk P b ⟨m, .mb a1 b1 c1, [(m, instObj 154 md), (md, mbDict P a1 b1 c1 T)]⟩
  | gp (g gd l : Addr) (a1 : Str) (T : GT) (ep : Nat) (es : List EA) (ms : List (Str × Str × Str)) : (∀ e ∈ es, EOk P true e) → es.map (·.pl) = ms.map (fun x => .mb x.1 x.2.1 x.2.2) → es.length ≤ 999 → EOk P false ⟨g, .gp a1 ms, (g, instObj 180 gd) :: (gd, gpDict P a1 l T) :: (l, listOf (refsE es).toArray ep) :: ledE es⟩
theorem refsE_push {xs : List EA} {x : EA} : (refsE xs).toArray.push (.ref x.addr) = (refsE (xs ++ [x])).toArray := by simp [refsE]
theorem refsE_size {xs : List EA} (h : xs.length ≤ 100000) : (refsE xs).toArray.size ≤ sizeLine := by simp [refsE, sizeLine_eq]; omega
theorem ledE_push {xs : List EA} {x : EA} : ledE (xs ++ [x]) = ledE xs ++ x.led := by simp [ledE]
noncomputable def listLoop (pl : Nat → Except Int (Pl × Nat)) (ts : List Tk) (n : Nat) : Nat → Nat → List Pl → Except Int (List Pl × Nat)
  | 0, _, _ => .error (-1)
  | f + 1, k, acc =>
    if (decide (k < ts.length) && !standsAt ts k #[59]) = true then
      (if standsAt ts k #[44] = true then listLoop pl ts n f (k + 1) acc
      else match pl k with
        | .error q => .error q
        | .ok (p, j) => if (decide (j < ts.length) && !standsAt ts j #[44] && !standsAt ts j #[59]) = true then .error (placeAt ts j n) else listLoop pl ts n f j (acc ++ [p]))
    else .ok (acc, k)
noncomputable def listOfPl (pl : Nat → Except Int (Pl × Nat)) (ts : List Tk) (n k : Nat) : Except Int (List Pl × Nat) := listLoop pl ts n (ts.length + 1) k []
/-- what read_place must do, for is_inner = b -/
noncomputable def PlaceC (prog : Program) (w : World) (N : Nat) (b : Bool) (P : List Tk → Nat → Nat → Except Int (Pl × Nat)) : Prop :=
  ∀ {A : Around} {base : Heap} {fr : List Env} {s : Shared} {Q : Value → Shared → Prop} {E : Value → Shared → Prop} {r rd l : Addr} {xs : List TkA} {k n : Nat} {T : RT}, Gr w base → Below A base fr s.heap → Room A N → RdC base fr r rd → s.heap.get? r = some (instObj 262 rd) → s.heap.get? rd = some (rdDict w.params l k n T) → TokL s.heap l xs → xs.length ≤ 999 → k ≤ xs.length → (∀ x ∈ xs, x.tk.worth.size ≤ 999 ∧ x.tk.place ≤ 999) →
    (∀ p j, P (xs.map (·.tk)) n k = .ok (p, j) → j ≤ xs.length → k < j → ∀ e T' h' tk', EOk w.params b e → e.pl = p → KeepBut [rd] s.heap h' → h'.get? rd = some (rdDict w.params l j n T') → NewIn s.heap h' e.led → Q (.ref e.addr) { s with heap := h', toks := tk' }) →
    (∀ q, P (xs.map (·.tk)) n k = .error q → ∀ e h' tk', Fly base fr e q .none h' → UpBut [r, rd] s.heap h' → E (.ref e) { s with heap := h', toks := tk' }) →
    wpAny (model prog w) A (call (.ref 301) [.ref r, .bool b]) Q E s
noncomputable def innerP (ts : List Tk) (n k : Nat) : Except Int (Pl × Nat) := match innerPlace ts n k with
  | .error q => .error q
  | .ok (a, b, c, j) => .ok (.mb a b c, j)
theorem place_inner {prog : Program} {w : World} : PlaceC prog w 10 true innerP := by
  intro A base fr s Q E r rd l xs k n T G B hR C hi hd hT hx hk hwz hret hE
  refine c_place_inner G B hR C hi hd hT hx hk hwz (fun o1 o2 o3 j ho hj hk m md MT' T' h' tk' kk hd' nw ne => ?_) (fun q hq => hE q (by rw [innerP, hq]))
  exact hret (.mb o1 o2 o3) j (by rw [innerP, ho]) hj hk _ T' h' tk' (.mb m md o1 o2 o3 MT' ne) rfl kk hd' nw
theorem News.plusBut {g h h' : Heap} {L : Addr} {m : Str → Option Value} {nx nx' D : List (Addr × Obj)} (F : Fr g L h m) (N : News g L h nx) (N1 : News g L h' nx') (n : NewIn h h' D) : News g L h' (nx' ++ D) := fun q hq => by
  rcases List.mem_append.mp hq with hq | hq
  · exact N1 q hq
  · exact News.cons1 F N N1 (n q hq).1 (n q hq).2 q (.head _)


-- 33_rlist
theorem all_app {P : Params} {b : Bool} {acc : List EA} {e : EA} (h : ∀ x ∈ acc, EOk P b x) (h2 : EOk P b e) : ∀ x ∈ acc ++ [e], EOk P b x := fun x hx => (List.mem_append.mp hx).elim (h x) fun hm => by rw [List.mem_singleton.mp hm]; exact h2
theorem off_app {D : List (Addr × Obj)} {acc : List EA} {l : Addr} (h : ∀ p ∈ ledE acc, p.1 ≠ l) (h2 : ∀ p ∈ D, p.1 ≠ l) : ∀ p ∈ ledE acc ++ D, p.1 ≠ l := fun p hp => (List.mem_append.mp hp).elim (h p) (h2 p)
theorem listLoop_done {pl : Nat → Except Int (Pl × Nat)} {ts : List Tk} {n f k : Nat} {acc : List Pl} (h : (decide (k < ts.length) && !standsAt ts k #[59]) = false) : listLoop pl ts n (f + 1) k acc = .ok (acc, k) := by
  rw [listLoop, if_neg (by rw [h]; decide)]
section
local macro_rules | `(tactic| k_all) => `(tactic| assumption)
variable {prog : Program} {w : World}
  {A : Around} {base : Heap} {fr : List Env} {s : Shared} {Q : Value → Shared → Prop} {E : Value → Shared → Prop}
theorem setup_rlist0 : True := by
  k_with "m size" => ((with_reducible refine refsE_size ?_); k_extra "m om")
  k_with "m call" => ((with_reducible show wpAny _ _ (call (Value.ref 301) _ _) _ _ _); (try dsimp only); k_extra "m names"; k_dflt (refine' hPl G (Inside.below IN kF) (Room.less hR' (by k_extra "m om")) ?kC ?ki ?kd ?kT ?kx ?kk hwz ?_ ?_); (case ki => exact (kN (_, _) (by k_mem)).1); (case kd => exact (kN (_, _) (by k_mem)).1); (case kC => exact RdC.push C kN (by k_mem) (by k_mem)); (case kT => k_extra "m toks"); (case kx => k_extra "m om"); (case kk => k_extra "m om"); rotate_left 1; (intro q hq e' h' tk' x' u'; k_extra "m he"); rotate_right 1; (intro p9 j9 ho9 hj9 hk9 e9 T9 h' tk' ok9 hp9 kk' hd' nw9; (try dsimp only at kk' nw9); have nea9 := NewIn.off kN nw9 (by k_mem : (r, instObj 262 rd) ∈ _); have neb9 := NewIn.off kN nw9 (by k_mem : (rd, rdDict _ _ _ _ _) ∈ _); have nec9 := NewIn.off kN nw9 (by k_mem : (l', PySem.W.listOf _ _) ∈ _); have nf' := News.turn kF kN (by k_upd) kk' hd'; have F' := nf'.1; have N' := News.plusBut kF kN nf'.2 nw9; (try simp only [List.nil_append, List.cons_append] at N'); have off9 := off_app (by assumption) nec9; clear nf' kF kN kk' hd'; (try dsimp only)))
  trivial
theorem c_read_list {b : Bool} {N : Nat} {P : List Tk → Nat → Nat → Except Int (Pl × Nat)} (hPl : PlaceC prog w N b P) (hN : 10 ≤ N) {r rd l : Addr} {xs : List TkA} {k n : Nat} {T : RT} (G : Gr w base) (B : Below A base fr s.heap) (hR : Room A (N + 1)) (C : RdC base fr r rd) (hi : s.heap.get? r = some (instObj 262 rd)) (hd : s.heap.get? rd = some (rdDict w.params l k n T)) (hT : TokL s.heap l xs) (hx : xs.length ≤ 999) (hk : k ≤ xs.length) (hwz : ∀ x ∈ xs, x.tk.worth.size ≤ 999 ∧ x.tk.place ≤ 999)
  (hret : ∀ ps j, listOfPl (P (xs.map (·.tk)) n) (xs.map (·.tk)) n k = .ok (ps, j) → j ≤ xs.length → k ≤ j → ps.length ≤ j → ∀ lo es ep T' h' tk', (∀ e ∈ es, EOk w.params b e) → es.map (·.pl) = ps → KeepBut [rd] s.heap h' → h'.get? rd = some (rdDict w.params l j n T') → NewIn s.heap h' ((lo, listOf (refsE es).toArray ep) :: ledE es) → (∀ p ∈ ledE es, p.1 ≠ lo) → Q (.ref lo) { s with heap := h', toks := tk' })
  (hE : ∀ q, listOfPl (P (xs.map (·.tk)) n) (xs.map (·.tk)) n k = .error q → ∀ e h' tk', Fly base fr e q .none h' → UpBut [r, rd] s.heap h' → E (.ref e) { s with heap := h', toks := tk' }) :
  wpAny (model prog w) A (call (.ref 308) [.ref r, .bool b]) Q E s := by
  k_extra "m enter"
  case kbinds => exact [("reader", .ref r), ("is_inner", .bool b)]
  k_extra "m rd"
  generalize hW : listOfPl (P (xs.map (·.tk)) n) (xs.map (·.tk)) n k = W at hret hE
  unfold listOfPl at hW
  rw [len_tk] at hW
  k_steps
  refine Hold.go ?_
  refine while_own (σ := Nat × Nat × RT × List EA × Nat) (fun c => (l', PySem.W.listOf (refsE c.2.2.2.1).toArray c.2.2.2.2) :: (r, instObj 262 rd) :: (rd, rdDict w.params l c.2.1 n c.2.2.1) :: ledE c.2.2.2.1) (fun c => [("found", .ref l'), ("is_inner", .bool b), ("reader", .ref r)])
    (fun c => listLoop (P (xs.map (·.tk)) n) (xs.map (·.tk)) n c.1 c.2.1 (c.2.2.2.1.map (·.pl)) = W ∧ xs.length < c.2.1 + c.1 ∧ k ≤ c.2.1 ∧ c.2.1 ≤ xs.length ∧ c.2.2.2.1.length ≤ c.2.1 ∧ (∀ e ∈ c.2.2.2.1, EOk w.params b e) ∧ (∀ p ∈ ledE c.2.2.2.1, p.1 ≠ l') ∧ (∀ p ∈ ledE c.2.2.2.1, p.1 ≠ r) ∧ (∀ p ∈ ledE c.2.2.2.1, p.1 ≠ rd)) (fun c => c.1) (xs.length + 1, k, T, [], 0) (by assumption) (by assumption) (fun p hp => hp) ⟨hW, by dsimp only; omega, Nat.le_refl _, hk, Nat.zero_le _, (fun _ h => nomatch h), (fun _ h => nomatch h), (fun _ h => nomatch h), (fun _ h => nomatch h)⟩ ⟨rfl, rfl, rfl, trivial⟩ ?_ (Inside.pass IN)
  refine pr5 fun f j Tj acc ep u₁ h tk2 => an9 fun hp1 hp2 hp3 hp4 hp5 hp6 hp7 hp8 hpd F' N' => ?_
  dsimp only at hp1 hp2 hp3 hp4 hp5 hp6 hp7 hp8 hpd F' N'
  obtain ⟨f', rfl⟩ : ∃ f', f = f' + 1 := by first | exact fuel (by assumption) (by assumption) | exact fuel2 (by assumption) (by assumption) | exact ⟨f - 1, by omega⟩
  have stopB : StopBool := ⟨rfl⟩
  (try dsimp only)
  k_steps
  refine Hold.go (cutAt (σ := Unit) (by assumption) (fun _ => (l', PySem.W.listOf (refsE acc).toArray ep) :: (r, instObj 262 rd) :: (rd, rdDict w.params l j n Tj) :: ledE acc) (fun _ => [("found", .ref l'), ("is_inner", .bool b), ("reader", .ref r)]) (fun v _ => v = (decide (j < (xs.map (·.tk)).length) && !standsAt (xs.map (·.tk)) j #[59])) ?_ ?_)
  · (rename StopBool => st0; clear st0)
    k_steps
    · exact Cut.intro () (by assumption) (by assumption) (by rw [len_tk, decide_eq_false (by omega)]; rfl) (fun p hp => hp) ⟨rfl, rfl, rfl, trivial⟩
    · exact Cut.intro () (by assumption) (by assumption) (by rename standsAt _ _ _ = true => h1; rw [len_tk, decide_eq_true (by omega), h1]; rfl) (fun p hp => hp) ⟨rfl, rfl, rfl, trivial⟩
    · exact Cut.intro () (by assumption) (by assumption) (by rename standsAt _ _ _ = false => h1; rw [len_tk, decide_eq_true (by omega), h1]; rfl) (fun p hp => hp) ⟨rfl, rfl, rfl, trivial⟩
  · rintro v _ m₂ h' tk' hv F' N'
    (rename StopBool => st0; clear st0)
    cases v with
    | true =>
      simp only [if_true]
      rw [listLoop, ← hv, if_pos rfl] at hp1
      k_steps
      · rw [if_pos hs9] at hp1
        have hjl := stands_lt hs9
        dsimp only
        k_extra "m turn"
        exact WEnd.intro (f', j + 1, T9, acc, ep) (by assumption) (by assumption) (fun p hp => hp) ⟨hp1, by dsimp only; omega, by dsimp only; omega, by dsimp only; omega, by dsimp only; omega, hp6, hp7, hp8, hpd⟩ (Nat.lt_succ_self _) ⟨rfl, rfl, rfl, trivial⟩
      all_goals (rename standsAt _ j #[44] = false => h44; rw [if_neg (no_true h44)] at hp1)
      · rw [ho9] at hp1
        dsimp only at hp1
        rw [len_tk, decide_eq_false (by omega), if_neg (by simp)] at hp1
        k_extra "m turn"
        rename News _ _ _ _ => N9
        rw [refsE_push, ← ledE_push] at N9
        exact WEnd.intro (f', j9, T9, acc ++ [e9], ep + 1) (by assumption) N9 (fun p hp => hp) ⟨by rw [List.map_append, List.map_cons, List.map_nil, hp9]; exact hp1, by dsimp only; omega, by dsimp only; omega, by dsimp only; omega, by rw [List.length_append]; dsimp only [List.length]; omega, all_app hp6 ok9, by dsimp only; rw [ledE_push]; exact off9, by dsimp only; rw [ledE_push]; exact off_app hp8 nea9, by dsimp only; rw [ledE_push]; exact off_app hpd neb9⟩ (Nat.lt_succ_self _) ⟨rfl, rfl, rfl, trivial⟩
      · rw [ho9] at hp1
        dsimp only at hp1
        rename standsAt _ j9 #[44] = true => h1
        rw [h1, if_neg (by simp)] at hp1
        k_extra "m turn"
        rename News _ _ _ _ => N9
        rw [refsE_push, ← ledE_push] at N9
        exact WEnd.intro (f', j9, T9, acc ++ [e9], ep + 1) (by assumption) N9 (fun p hp => hp) ⟨by rw [List.map_append, List.map_cons, List.map_nil, hp9]; exact hp1, by dsimp only; omega, by dsimp only; omega, by dsimp only; omega, by rw [List.length_append]; dsimp only [List.length]; omega, all_app hp6 ok9, by dsimp only; rw [ledE_push]; exact off9, by dsimp only; rw [ledE_push]; exact off_app hp8 nea9, by dsimp only; rw [ledE_push]; exact off_app hpd neb9⟩ (Nat.lt_succ_self _) ⟨rfl, rfl, rfl, trivial⟩
      · rw [ho9] at hp1
        dsimp only at hp1
        rename standsAt _ j9 #[59] = true => h1
        rw [h1, if_neg (by simp)] at hp1
        k_extra "m turn"
        rename News _ _ _ _ => N9
        rw [refsE_push, ← ledE_push] at N9
        exact WEnd.intro (f', j9, T9, acc ++ [e9], ep + 1) (by assumption) N9 (fun p hp => hp) ⟨by rw [List.map_append, List.map_cons, List.map_nil, hp9]; exact hp1, by dsimp only; omega, by dsimp only; omega, by dsimp only; omega, by rw [List.length_append]; dsimp only [List.length]; omega, all_app hp6 ok9, by dsimp only; rw [ledE_push]; exact off9, by dsimp only; rw [ledE_push]; exact off_app hp8 nea9, by dsimp only; rw [ledE_push]; exact off_app hpd neb9⟩ (Nat.lt_succ_self _) ⟨rfl, rfl, rfl, trivial⟩
      · rw [ho9] at hp1
        dsimp only at hp1
        rename standsAt _ j9 #[59] = false => h1
        rename standsAt _ j9 #[44] = false => h2
        rw [len_tk, h1, h2, decide_eq_true (by omega), if_pos (by rfl)] at hp1
        k_extra "m raised"
        exact hE _ hp1.symm _ _ _ x₂ (UpBut.of (kept kb (by assumption)) u₂)
      · rw [hq] at hp1
        exact hE _ hp1.symm _ _ _ x₂ U'
    | false =>
      simp only [Bool.false_eq_true, if_false]
      k_steps
      dsimp only
      rw [listLoop_done hv.symm] at hp1
      k_extra "m out"
      rename News _ _ _ _ => N9
      rename Fr _ _ _ _ => F9
      exact hret _ _ hp1.symm hp4 hp3 (by rw [List.length_map]; exact hp5) l' acc ep Tj _ _ hp6 rfl (kept_mut kb F9 N9 (hM9 _ (.head _)) (.tail _ (.head _))) (N9 (rd, _) (.tail _ (.tail _ (.head _)))).1 (fun q hq => by
        rcases List.mem_cons.mp hq with rfl | hq
        · exact ⟨fresh0 kb N9 (.head _) (by intro hm; rcases List.mem_cons.mp hm with e | hm; exact absurd e (Nat.ne_of_gt l1.1); exact absurd (List.mem_singleton.mp hm) (Nat.ne_of_gt l1.2)), (N9 _ (.head _)).1⟩
        · exact ⟨fresh0 kb N9 (.tail _ (.tail _ (.tail _ hq))) (by intro hm; rcases List.mem_cons.mp hm with e | hm; exact hp8 _ hq e; exact hpd _ hq (List.mem_singleton.mp hm)), (N9 _ (.tail _ (.tail _ (.tail _ hq)))).1⟩) hp7
end
theorem setup_rlist : True := by
  k_with "m call" => ((with_reducible show wpAny _ _ (call (Value.ref 308) _ _) _ _ _); (try dsimp only); k_extra "m names"; k_dflt (refine' c_read_list hPl hN10 G (Inside.below IN kF) (Room.less hR' (by k_extra "m om")) ?kC ?ki ?kd ?kT ?kx ?kk hwz ?_ ?_); (case ki => exact (kN (_, _) (by k_mem)).1); (case kd => exact (kN (_, _) (by k_mem)).1); (case kC => exact RdC.push C kN (by k_mem) (by k_mem)); (case kT => k_extra "m toks"); (case kx => k_extra "m om"); (case kk => first | k_extra "m om" | (have hlt9 := stands_lt hs9; k_extra "m om")); rotate_left 1; (intro q hq e' h' tk' x' u'; k_extra "m he"); rotate_right 1; (intro p9 j9 ho9 hj9 hk9 hpl9 lo9 es9 ep9 T9 h' tk' ok9 hp9 kk' hd' nw9 off9; (try dsimp only at kk' nw9); have nea9 := NewIn.off kN nw9 (by k_mem : (r, instObj 262 rd) ∈ _); have neb9 := NewIn.off kN nw9 (by k_mem : (rd, rdDict _ _ _ _ _) ∈ _); have nla9 : @Ne Nat lo9 r := nea9 _ (.head _); have nlb9 : @Ne Nat lo9 rd := neb9 _ (.head _); have nta9 := fun p hp => nea9 p (.tail _ hp); have ntb9 := fun p hp => neb9 p (.tail _ hp); have nf' := News.turn kF kN (by k_upd) kk' hd'; have F' := nf'.1; have N' := News.plusBut kF kN nf'.2 nw9; (try simp only [List.nil_append, List.cons_append] at N'); clear nf' kF kN kk' hd'; (try dsimp only)))
  trivial

-- 34_group
noncomputable def plTr : Pl → Str × Str × Str
  | .mb a b c => (a, b, c)
  | .gp a _ => (a, a, a)
noncomputable def outerP (ts : List Tk) (n k : Nat) : Except Int (Pl × Nat) :=
  if standsAt ts (wordsTo ts k) #[58] = true then
    (if wordsTo ts k - k = 0 then .error (placeAt ts (wordsTo ts k) n)
    else match phraseOf (((ts.drop k).take (wordsTo ts k - k)).filter (fun t => t.kind != .comment)) with
      | .error q => .error q
      | .ok o => match listOfPl (innerP ts n) ts n (wordsTo ts k + 1) with
        | .error q => .error q
        | .ok (ps, j) => if standsAt ts j #[59] = true then .ok (.gp (textOf o) (ps.map plTr), j + 1) else .error (placeAt ts j n))
  else match mailboxOf ts n ((ts.drop k).take (wordsTo ts k - k)) (wordsTo ts k) with
    | .error q => .error q
    | .ok (a, b, c, j) => .ok (.mb a b c, j)
theorem eq_nil {prog : Program} {w : World} {A : Around} {E : Value → Shared → Prop} {s : Shared} {l b : Addr} {xs : List TkA} {Q : Value → Shared → Prop} (hl : s.heap.IsList l (refsT xs).toArray) (hb : s.heap.IsList b #[]) (hu : A.units < cLine)
    (hT : xs.length = 0 → Q (.bool true) s) (hF : xs.length ≠ 0 → Q (.bool false) s) : wpAny (model prog w) A (compareOp .Eq (.ref l) (.ref b)) Q E s := by
  cases xs with
  | nil =>
    refine PySem.SeqAt.eq_listAt (e := fun _ => true) hl hb rfl hu (fun j h1 _ => absurd h1 (Nat.not_lt_zero _)) ?_
    exact hT rfl
  | cons x r => exact PySem.SeqAt.eq_list_lengthsAt hl hb (by simp [refsT]) hu (hF (by simp))
theorem setup_group0 : True := by
  k_with "m eqnil" => (k_extra "m names"; k_dflt (refine' eq_nil (News.isList kN (by k_mem)) (News.isList kN (by k_mem)) ?ku ?_ ?_); (case ku => (have hru := hR'.2.1; refine Nat.lt_of_le_of_lt (m := 1000) (by k_extra "m om") ?_; decide)); all_goals (intro hn9; (try dsimp only)))
  trivial
theorem inner_pl {P : Params} : ∀ {es : List EA}, (∀ e ∈ es, EOk P true e) → es.map (·.pl) = ((es.map (·.pl)).map plTr).map (fun x => Pl.mb x.1 x.2.1 x.2.2)
  | [], _ => rfl
  | e :: r, h => by
    have h1 := h e (.head _)
    have h2 := inner_pl (es := r) fun x hx => h x (.tail _ hx)
    rw [List.map_cons, List.map_cons, List.map_cons, ← h2]
    cases h1
    rfl
theorem newIn_led {g h h' : Heap} {L r rd : Addr} {D nx : List (Addr × Obj)} (kb : KeepBut [r, rd] h g) (N : News g L h' nx) (sub : ∀ q ∈ D, q ∈ nx) (ne : ∀ q ∈ D, q.1 ≠ r ∧ q.1 ≠ rd) : NewIn h h' D := fun q hq =>
  ⟨fresh0 kb N (sub q hq) (by
    intro hm
    rcases List.mem_cons.mp hm with e | hm
    · exact (ne q hq).1 e
    · exact (ne q hq).2 (List.mem_singleton.mp hm)), (N q (sub q hq)).1⟩
section
local macro_rules | `(tactic| k_all) => `(tactic| assumption)
variable {prog : Program} {w : World}
theorem c_place_outer : PlaceC prog w 15 false outerP := by
  intro A base fr s Q E r rd l xs k n T G B hR C hi hd hT hx hk hwz hret hE
  have hPl := @place_inner prog w
  have hN10 : 10 ≤ 10 := Nat.le_refl _
  k_extra "m enter"
  case kbinds => exact [("reader", .ref r), ("is_inner", .bool false)]
  k_extra "m rd"
  have hwl := wordEnd_le (ts := xs.map (·.tk)) (f := (xs.map (·.tk)).length + 1) (k := k) (Nat.le_trans hk (Nat.le_of_eq len_tk.symm))
  have hwl2 : wordsTo (xs.map (·.tk)) k ≤ xs.length := Nat.le_trans hwl.2 (Nat.le_of_eq len_tk)
  have hwg : k ≤ wordsTo (xs.map (·.tk)) k := hwl.1
  clear hwl
  generalize hW : outerP (xs.map (·.tk)) n k = W at hret hE
  unfold outerP at hW
  rw [← span_map, ← filter_tk] at hW
  have hn9 := trivial
  k_steps
  all_goals ((first | rename standsAt _ _ #[58] = true => h58 | rename standsAt _ _ #[58] = false => h58); (first | rename phraseOf _ = _ => hph | have hph := trivial); (first | rename mailboxOf _ _ _ _ = _ => hmb | have hmb := trivial); (first | rename listOfPl _ _ _ _ = _ => hli | have hli := trivial); (first | rename standsAt _ _ #[59] = _ => h59 | have h59 := trivial))
  all_goals (try rw [span_len hwl2] at hn9)
  all_goals (try have hn8 := hn9)
  all_goals (simp only [h58, hph, hmb, hli, h59, hn9, if_true, Bool.false_eq_true, if_false] at hW)
  all_goals (try exact hE _ hW.symm _ _ _ x₂ U')
  · k_extra "m raised"
    exact hE _ hW.symm _ _ _ x₂ (UpBut.of (kept kb (by assumption)) u₂)
  · have hjl := stands_lt h59
    k_extra "m out"
    rename News _ _ _ _ => N9
    rename Fr _ _ _ _ => F9
    refine hret _ _ hW.symm (by omega) (by omega) ⟨mr9, _, (mr9, instObj 180 md9) :: (md9, gpDict w.params (textOf o9) lo9 mt9) :: (lo9, PySem.W.listOf (refsE es9).toArray ep9) :: ledE es9⟩ T9 _ _ (EOk.gp mr9 md9 lo9 (textOf o9) mt9 ep9 es9 (p9.map plTr) ok9 ?_ (by rw [← List.length_map (f := (·.pl)), hp9]; omega)) rfl (kept_mut kb F9 N9 (hM9 _ (.head _)) (by k_mem)) (N9 (rd, _) (.tail _ (.tail _ (.tail _ (.head _))))).1 (newIn_led kb N9 (fun q hq => ?_) (fun q hq => ?_))
    · rw [← hp9]; exact inner_pl ok9
    · rcases List.mem_cons.mp hq with rfl | hq
      · exact .tail _ (.tail _ (.tail _ (.tail _ (.tail _ (List.mem_append_right _ (.head _))))))
      · rcases List.mem_cons.mp hq with rfl | hq
        · exact .tail _ (.tail _ (.tail _ (.tail _ (.tail _ (List.mem_append_right _ (.tail _ (.head _)))))))
        · rcases List.mem_cons.mp hq with rfl | hq
          · exact .tail _ (.tail _ (.tail _ (.tail _ (.head _))))
          · exact .tail _ (.tail _ (.tail _ (.tail _ (.tail _ (List.mem_append_left _ hq)))))
    · rcases List.mem_cons.mp hq with rfl | hq
      · exact ⟨Ne.symm nea9.2.2.1, Ne.symm nea9.2.2.2.1⟩
      · rcases List.mem_cons.mp hq with rfl | hq
        · exact ⟨Ne.symm neb9.2.2.1, Ne.symm neb9.2.2.2.1⟩
        · rcases List.mem_cons.mp hq with rfl | hq
          · exact ⟨nla9, nlb9⟩
          · exact ⟨nta9 q hq, ntb9 q hq⟩
  · rename standsAt _ _ #[58] = false => h57
    rename standsAt _ _ #[58] = true => h56
    rw [h56] at h57; cases h57
  · k_extra "m out"
    rename News _ _ _ _ => N9
    rename Fr _ _ _ _ => F9
    exact hret _ _ hW.symm hj9 (by omega) ⟨mr9, .mb o1' o2' o3', [(mr9, instObj 154 md9), (md9, mbDict w.params o1' o2' o3' mt9)]⟩ T9 _ _ (EOk.mb mr9 md9 o1' o2' o3' mt9 ne9') rfl (kept_mut kb F9 N9 (hM9 _ (.head _)) (by k_mem)) (N9 (rd, _) (by k_mem)).1 (newIn_two kb N9 (by k_mem) (by k_mem) nea9.2 neb9.2)
end
theorem setup_group : True := by
  k_with "m call" => ((with_reducible show wpAny _ _ (call (Value.ref 262) _ _) _ _ _); (try dsimp only); k_extra "m names"; k_dflt (refine' c_reader_new G (Inside.below IN kF) (Room.less hR' (by k_extra "m om")) ?_); (intro r rd mt9 h' tk' kk' nw9 hne9; dsimp only at kk' nw9; have nea9 := News.ne kN (nw9 _ (.head _)).1; have neb9 := News.ne kN (nw9 _ (.tail _ (.head _))).1; simp only [AllNe, and_true] at nea9 neb9; have C9 := RdC.mk hne9 (base_none (Inside.below IN kF) (nw9 _ (.head _)).1) (base_none (Inside.below IN kF) (nw9 _ (.tail _ (.head _))).1) (off_fresh (M := [r, rd]) (Inside.below IN kF) (fun a ha => by rcases List.mem_cons.mp ha with rfl | ha; exact (nw9 _ (.head _)).1; rw [List.mem_singleton.mp ha]; exact (nw9 _ (.tail _ (.head _))).1)); have N' := News.plus kF kN kk' nw9; have F' := Fr.keepAll kF kk'; (try simp only [List.nil_append, List.cons_append] at N'); clear kF kN kk'; (try dsimp only)))
  trivial

-- 35_addr
noncomputable def addressesOf (d : Array UInt8) : Except Int (List Pl) := match tokensOf d with
  | .error q => .error q
  | .ok ts => match listOfPl (outerP (ts.filter (fun t => t.kind != .comment)) d.size) (ts.filter (fun t => t.kind != .comment)) d.size 0 with
    | .error q => .error q
    | .ok (ps, j) => if j < (ts.filter (fun t => t.kind != .comment)).length then .error (placeAt (ts.filter (fun t => t.kind != .comment)) j d.size) else .ok ps
theorem TokL.newsF {g h : Heap} {L D : Addr} {xs : List TkA} {n : Nat} {nx : List (Addr × Obj)} (N : News g L h nx) (hm : (D, listOf (refsT (xs.filter notComment)).toArray n) ∈ nx) (hs : ∀ q ∈ ledT xs, q ∈ nx) : TokL h D (xs.filter notComment) :=
  ⟨⟨_, (N _ hm).1, rfl, n, rfl⟩, fun x hx => (N _ (hs _ (List.mem_map.mpr ⟨x, (List.mem_filter.mp hx).1, rfl⟩))).1⟩
theorem News.front2 {g h : Heap} {L : Addr} {a b c d : Addr × Obj} {l : List (Addr × Obj)} (N : News g L h (a :: b :: (l ++ [c, d]))) : News g L h (c :: d :: a :: b :: l) := fun q hq => by
  refine N q ?_
  rcases List.mem_cons.mp hq with rfl | hq
  · exact .tail _ (.tail _ (List.mem_append_right _ (.head _)))
  · rcases List.mem_cons.mp hq with rfl | hq
    · exact .tail _ (.tail _ (List.mem_append_right _ (.tail _ (.head _))))
    · rcases List.mem_cons.mp hq with rfl | hq
      · exact .head _
      · rcases List.mem_cons.mp hq with rfl | hq
        · exact .tail _ (.head _)
        · exact .tail _ (.tail _ (List.mem_append_left _ hq))
theorem AllNe.mem {d : Addr} : ∀ {l : List (Addr × Obj)}, AllNe d l → ∀ p ∈ l, p.1 ≠ d
  | [], _, _, h => nomatch h
  | _ :: _, x, _, h => (List.mem_cons.mp h).elim (fun e => e ▸ x.1) (AllNe.mem x.2 _)
theorem UpBut.fresh {M : List Addr} {h h1 h' : Heap} (k : Keep h h1) (hn : ∀ a ∈ M, h.get? a = none) (u : UpBut M h1 h') : UpBut [] h h' := fun b o _ e hd => u b o (fun hm => by rw [hn b hm] at e; cases e) (k b o e) hd
theorem setup_addr0 : True := by
  k_with "m toks" => (exact TokL.newsF kN (by k_mem) (by k_extra "m sub"))
  k_with "m call" => ((with_reducible show wpAny _ _ (call (Value.ref 210) _ _) _ _ _); (try dsimp only); k_extra "m names"; k_dflt (refine' c_is_done G (Inside.below IN kF) (Room.less hR' (by k_extra "m om")) C9 ?ki ?kd ?kT ?kx ?_); (case ki => exact (kN (_, _) (by k_mem)).1); (case kd => exact (kN (_, _) (by k_mem)).1); (case kT => k_extra "m toks"); (case kx => k_extra "m om"); intro h' tk' kk'; k_extra "m after")
  k_with "m call" => ((with_reducible show wpAny _ _ (call (Value.ref 245) _ _) _ _ _); (try dsimp only); k_extra "m names"; k_dflt (refine' c_rfault G (Inside.below IN kF) (Room.less hR' (by k_extra "m om")) C9 ?ki ?kd ?kT ?kx ?_); (case ki => exact (kN (_, _) (by k_mem)).1); (case kd => exact (kN (_, _) (by k_mem)).1); (case kT => k_extra "m toks"); (case kx => k_extra "m om"); intro e' h' tk' kk' x'; k_extra "m after")
  trivial
section
local macro_rules | `(tactic| k_all) => `(tactic| assumption)
variable {prog : Program} {w : World}
  {A : Around} {base : Heap} {fr : List Env} {s : Shared} {Q : Value → Shared → Prop} {E : Value → Shared → Prop}
theorem c_read_addresses {d : Array UInt8} {t : Tok} (G : Gr w base) (B : Below A base fr s.heap) (hR : Room A 18) (hz : d.size ≤ 999)
  (hret : ∀ ps, addressesOf d = .ok ps → ∀ lo es ep h' tk', (∀ e ∈ es, EOk w.params false e) → es.map (·.pl) = ps → es.length ≤ 999 → Keep s.heap h' → NewIn s.heap h' ((lo, listOf (refsE es).toArray ep) :: ledE es) → (∀ p ∈ ledE es, p.1 ≠ lo) → Q (.ref lo) { s with heap := h', toks := tk' })
  (hE : ∀ q, addressesOf d = .error q → ∀ e h' tk', Fly base fr e q .none h' → UpBut [] s.heap h' → E (.ref e) { s with heap := h', toks := tk' }) :
  wpAny (model prog w) A (call (.ref 315) [.bytes d t]) Q E s := by
  have hPl := @c_place_outer prog w
  have hN10 : 10 ≤ 15 := by omega
  k_extra "m enter"
  case kbinds => exact [("octets", .bytes d t)]
  k_extra "m pure"
  generalize hW : addressesOf d = W at hret hE
  unfold addressesOf at hW
  k_steps
  · rw [hsp] at hW
    dsimp only at hW
    rw [← filter_tk] at hW
    have hxf := List.length_filter_le notComment xs9
    have hwz := fun (x : TkA) (hx : x ∈ xs9.filter notComment) => (⟨by have := hxb x (List.mem_filter.mp hx).1; omega, by have := hxb x (List.mem_filter.mp hx).1; omega⟩ : x.tk.worth.size ≤ 999 ∧ x.tk.place ≤ 999)
    rw [len_tk] at hW
    k_extra "m names"
    have kN2 := News.front2 kN
    clear kN
    have nes9 := AllNe.mem nea9.2.2
    have nes9' := AllNe.mem neb9.2.2
    have hrn := fresh0 kb kN2 (.head _) (by simp)
    have hrdn := fresh0 kb kN2 (.tail _ (.head _)) (by simp)
    have kfr := kept0 kb kF
    refine c_read_list (k := 0) hPl hN10 G (Inside.below IN kF) (Room.less hR' (by omega)) C9 (kN2 _ (.head _)).1 (kN2 _ (.tail _ (.head _))).1 (TokL.newsF kN2 (.tail _ (.tail _ (.head _))) (fun q hq => .tail _ (.tail _ (.tail _ (.tail _ hq))))) (by omega) (Nat.zero_le _) hwz ?_ ?_
    · intro p9 j9 ho9 hj9 hk9 hpl9 lo9 es9 ep9 T9 h' tk' ok9 hp9 kk' hd' nw9' off9
      dsimp only at kk' nw9'
      rw [ho9] at hW
      dsimp only at hW
      have nf' := News.turn kF kN2 (by k_upd) kk' hd'
      have F' := nf'.1
      have N' := News.plusBut kF kN2 nf'.2 nw9'
      simp only [List.cons_append] at N'
      clear nf' kF kN2 kk' hd'
      k_steps
      · rw [if_neg (by omega)] at hW
        k_extra "m out"
        rename News _ _ _ _ => N9
        rename Fr _ _ _ _ => F9
        refine hret _ hW.symm lo9 es9 ep9 _ _ ok9 hp9 (by rw [← List.length_map (f := (·.pl)), hp9]; omega) (kept0 kb F9) (NewIn.of kb N9 fun q hq => ?_) off9
        exact .tail _ (.tail _ (.tail _ (.tail _ (List.mem_append_right _ hq))))
      · rw [if_pos (by omega)] at hW
        k_extra "m raised"
        exact hE _ hW.symm _ _ _ x₂ (UpBut.of (kept kb (by assumption)) u₂)
    · intro q hq e' h' tk' x' u'
      rw [hq] at hW
      refine Inside.next IN x' fun h₂ x₂ u₂ => hE _ hW.symm _ _ _ x₂ (UpBut.then (UpBut.fresh kfr (fun a ha => ?_) u') u₂)
      rcases List.mem_cons.mp ha with rfl | ha
      · exact hrn
      · rw [List.mem_singleton.mp ha]; exact hrdn
  · rw [hq] at hW
    exact hE _ hW.symm _ _ _ x₂ U'
end
theorem setup_addr : True := by
  k_with "m call" => ((with_reducible show wpAny _ _ (call (Value.ref 315) _ _) _ _ _); k_extra "m names"; refine c_read_addresses G (Inside.below IN kF) (Room.less hR' (by k_extra "m om")) (by k_extra "m om") ?_ ?_; rotate_left 1; (intro q hq e' h' tk' x' u'; k_extra "m trap"); rotate_right 1; (intro ps9 hps9 lo9 es9 ep9 h' tk' ok9 hp9 hle9 kk' hnew hoff; dsimp only at kk' hnew; have N' := News.plus kF kN kk' hnew; have F' := Fr.keepAll kF kk'; (try simp only [List.nil_append, List.cons_append] at N'); clear kF kN kk'; (try dsimp only)))
  trivial

-- 36_told
structure DA where
  addr : Addr
  pl : Pl
  led : List (Addr × Obj)
noncomputable def refsD (es : List DA) : List Value := es.map fun e => .ref e.addr
noncomputable def ledD (es : List DA) : List (Addr × Obj) := es.flatMap (·.led)
noncomputable abbrev mbT (a b c : Str) (u0 u1 u2 u3 : Tok) : Obj := tupO [.str "mailbox" u0, .str a u1, .str b u2, .str c u3]
noncomputable abbrev gpT (a : Str) (t : Addr) (u0 u1 : Tok) : Obj := tupO [.str "group" u0, .str a u1, .ref t]
inductive DOk : Bool → DA → Prop
  | mb {b : Bool} (m : Addr) (a1 b1 c1 : Str) (u0 u1 u2 u3 : Tok) : DOk b ⟨m, .mb a1 b1 c1, [(m, mbT a1 b1 c1 u0 u1 u2 u3)]⟩
  | gp (g t : Addr) (a1 : Str) (u0 u1 : Tok) (ds : List DA) (ms : List (Str × Str × Str)) : (∀ e ∈ ds, DOk true e) → ds.map (·.pl) = ms.map (fun x => .mb x.1 x.2.1 x.2.2) → DOk false ⟨g, .gp a1 ms, (g, gpT a1 t u0 u1) :: (t, tupO (refsD ds)) :: ledD ds⟩
theorem refsD_push {xs : List DA} {x : DA} : (refsD xs).toArray.push (.ref x.addr) = (refsD (xs ++ [x])).toArray := by simp [refsD]
theorem refsD_snoc {xs : List DA} {x : DA} : refsD xs ++ [.ref x.addr] = refsD (xs ++ [x]) := by simp [refsD]
theorem refsD_size {xs : List DA} (h : xs.length ≤ 100000) : (refsD xs).toArray.size ≤ sizeLine := by simp [refsD, sizeLine_eq]; omega
theorem ledD_push {xs : List DA} {x : DA} : ledD (xs ++ [x]) = ledD xs ++ x.led := by simp [ledD]
theorem all_appD {b : Bool} {acc : List DA} {e : DA} (h : ∀ x ∈ acc, DOk b x) (h2 : DOk b e) : ∀ x ∈ acc ++ [e], DOk b x := fun x hx => (List.mem_append.mp hx).elim (h x) fun hm => by rw [List.mem_singleton.mp hm]; exact h2
/-- an instance and its dict, standing -/
structure Inst2 (h : Heap) (x C dx : Addr) (od : Obj) : Prop where
  h1 : h.get? x = some (instObj C dx)
  h2 : h.get? dx = some od
theorem Inst2.keep {h h' : Heap} {x C dx : Addr} {od : Obj} (I : Inst2 h x C dx od) (k : Keep h h') : Inst2 h' x C dx od := ⟨k _ _ I.h1, k _ _ I.h2⟩
theorem Inst2.at {g h : Heap} {L : Addr} {m : Str → Option Value} {x C dx : Addr} {od : Obj} (F : Fr g L h m) (I : Inst2 g x C dx od) : InstAt h x (instObj C dx) C (some od) := ⟨F.keep _ _ I.h1, rfl, rfl, F.keep _ _ I.h2⟩
local macro_rules | `(tactic| k_inst) => `(tactic| (refine Inst2.at (by k_asm) (by assumption)))
/-- the end of an element that is told -/
noncomputable def DEnd (b : Bool) (h₀ : Heap) (L : Addr) (m : Str → Option Value) (s : Shared) (h : Heap) (pl : Pl) (nx : List (Addr × Obj)) (y : Value) (s' : Shared) : Prop :=
  ∃ d : DA, DOk b d ∧ d.pl = pl ∧ y = .ref d.addr ∧ ∃ h' tk', s' = { s with heap := h', toks := tk' } ∧ Fr h₀ L h' m ∧ News h₀ L h' nx ∧ NewIn h h' d.led
theorem DEnd.intro {b : Bool} {h₀ h h' : Heap} {L : Addr} {m : Str → Option Value} {s : Shared} {pl : Pl} {nx nx' : List (Addr × Obj)} {tk' : Nat} (d : DA) (ok : DOk b d) (hp : d.pl = pl) (F : Fr h₀ L h' m) (N : News h₀ L h' nx') (sub : ∀ q ∈ nx, q ∈ nx') (nw : NewIn h h' d.led) : DEnd b h₀ L m s h pl nx (.ref d.addr) { s with heap := h', toks := tk' } :=
  ⟨d, ok, hp, rfl, h', tk', rfl, F, fun q hq => N q (sub q hq), nw⟩
theorem newIn_one {h h' : Heap} {a : Addr} {o : Obj} (hn : h.get? a = none) (ho : h'.get? a = some o) : NewIn h h' [(a, o)] := fun q hq => by rw [List.mem_singleton.mp hq]; exact ⟨hn, ho⟩
section
open LCg
variable {prog : Program} {w : World} {A : Around} {E : Value → Shared → Prop} {s : Shared} {h₀ : Heap} {L : Addr} {m : Str → Option Value} {env : Env}
/-- a comprehension over mailboxes and groups whose elements are told -/
theorem rest_D {elt : PySem.Expr} {x : Str} {scope : Scope} {cl : List (Str × Addr)} {S : List (Addr × Obj) → Prop}
    {Fin : List Value → List (Addr × Obj) → Prop} {b : Bool} {nw : List (Addr × Obj)} (items : List EA)
    (stepE : ∀ a ∈ items, ∀ I oI C oC D oD m₂ h tk nw' (E' : Value → Shared → Prop), NsObj oC m₂ → m₂ x = some (.ref a.addr) → Fr h₀ L h m → News h₀ L h ((I, oI) :: (C, oC) :: (D, oD) :: nw') → (∀ q ∈ nw, q ∈ nw') →
      wpAny (model prog w) A (eval elt (compEnvC scope cl C env)) (DEnd b h₀ L m s h a.pl ((I, oI) :: (C, oC) :: (D, oD) :: nw')) E' { s with heap := h, toks := tk })
    (hS : S nw) (hSm : ∀ nw D, S nw → S (nw ++ D))
    (fin : ∀ ds : List DA, (∀ d ∈ ds, DOk b d) → ds.map (·.pl) = items.map (·.pl) → Fin (refsD ds) (nw ++ ledD ds)) :
    CompRest prog w A h₀ L m env elt x scope cl s S (fun i v => (refsE items).toArray[i]? = some v) Fin (refsE items).toArray.size 0 [] nw := by
  rw [List.size_toArray, refsE, List.length_map]
  have go : ∀ (rest pre : List EA) (ds : List DA), items = pre ++ rest → (∀ d ∈ ds, DOk b d) → ds.map (·.pl) = pre.map (·.pl) → S (nw ++ ledD ds) → CompRest prog w A h₀ L m env elt x scope cl s S (fun i v => (items.map fun e => Value.ref e.addr).toArray[i]? = some v) Fin rest.length pre.length (refsD ds) (nw ++ ledD ds) := by
    intro rest
    induction rest with
    | nil => intro pre ds e hd hp _; rw [List.append_nil] at e; subst e; exact fin ds hd hp
    | cons a r ih =>
      intro pre ds e hd hp hSd
      refine CompRest.succ fun v I oI C oC D m₂ h tk E' hv hC hx F N off ne => ?_
      have ha : a ∈ items := by rw [e]; simp
      have hva : v = .ref a.addr := by
        have : (items.map fun e => Value.ref e.addr).toArray[pre.length]? = some v := hv
        rw [List.getElem?_toArray, e] at this
        simpa using this.symm
      subst hva
      refine wpAny_mono (stepE a ha I oI C oC D _ m₂ h tk _ E' hC hx F N (fun q hq => List.mem_append_left _ hq)) (fun y s' q => ?_) fun _ _ z => z
      obtain ⟨d, hok, hpl, rfl, h', tk', rfl, F', N', nwd⟩ := q
      have ih' := ih (pre ++ [a]) (ds ++ [d]) (by rw [e]; simp) (all_appD hd hok) (by rw [List.map_append, List.map_append, hp]; simp [hpl]) (by rw [ledD_push, ← List.append_assoc]; exact hSm _ _ hSd)
      rw [List.length_append] at ih'
      rw [ledD_push, ← List.append_assoc, ← refsD_snoc] at ih'
      refine ⟨h', tk', nw ++ ledD ds ++ d.led, rfl, F', ?_, ?_, hSm _ _ hSd, ih'⟩
      · have := News.plusBut F N N' nwd
        simpa only [List.cons_append] using this
      · refine Off3.of fun p hp => ?_
        rcases List.mem_append.mp hp with hp | hp
        · exact Off3.mem off p hp
        · have hn := (nwd p hp).1
          have f : ∀ q ∈ (I, oI) :: (C, oC) :: (D, lst (refsD ds)) :: (nw ++ ledD ds), p.1 ≠ q.1 := fun q hq e => by
            have := (N q hq).1
            rw [← e, hn] at this; cases this
          exact ⟨f _ (.head _), f _ (.tail _ (.head _)), f _ (.tail _ (.tail _ (.head _)))⟩
  have g0 := go items [] [] rfl (fun _ h => nomatch h) rfl (by simpa [ledD] using hS)
  rw [show nw ++ ledD [] = nw from by simp [ledD]] at g0
  exact g0
end
section
variable {prog : Program} {w : World}
  {A : Around} {base : Heap} {fr : List Env} {s : Shared} {Q : Value → Shared → Prop} {E : Value → Shared → Prop}
theorem c_told_mb {m md : Addr} {a b c : Str} {T : MT} (G : Gr w base) (B : Below A base fr s.heap) (hR : Room A 3) (I : Inst2 s.heap m 154 md (mbDict w.params a b c T))
  (hret : ∀ x u0 u1 u2 u3 h' tk', Keep s.heap h' → s.heap.get? x = none → h'.get? x = some (mbT a b c u0 u1 u2 u3) → Q (.ref x) { s with heap := h', toks := tk' }) :
  wpAny (model prog w) A (call (.ref 151) [.ref m]) Q E s := by
  k_extra "m enter"
  case kbinds => exact [("self", .ref m)]
  k_extra "m pure"
  have I' := I.keep (kb.keep)
  k_steps
  k_extra "m out"
  rename News _ _ _ _ => N9
  exact hret _ _ _ _ _ _ _ (kept0 kb (by assumption)) (newest kb N9).1 (newest kb N9).2
theorem Inst2.mbOf {h : Heap} {P : Params} {b : Bool} {m : Addr} {C dx : Addr} {od : Obj} {l : List (Addr × Obj)} (hl : ∀ q ∈ (m, instObj C dx) :: (dx, od) :: l, h.get? q.1 = some q.2) : Inst2 h m C dx od := ⟨hl _ (.head _), hl _ (.tail _ (.head _))⟩
theorem setup_told0 : True := by
  k_with "m call" => ((with_reducible show wpAny _ _ (call (Value.ref 151) _ _) _ _ _); (try dsimp only); k_extra "m names"; k_dflt (refine' c_told_mb G (Inside.below IN kF) (Room.less hR' (by k_extra "m om")) ?kI ?_); (case kI => exact Inst2.keep (by assumption) (Fr.keep kF)); intro x9 u09 u19 u29 u39 h' tk' kk' hn9 ho9; dsimp only at kk' hn9; have N' := News.cons1 kF kN (News.keepAll kN kk') hn9 ho9; have F' := Fr.keepAll kF kk'; clear kF kN; (try dsimp only))
  trivial
theorem NewIn.drop3 {g h h' : Heap} {L : Addr} {a b c : Addr × Obj} {l : List (Addr × Obj)} (kb : KeepBut [] h g) (N : News g L h' (a :: b :: c :: l)) : NewIn h h' (a :: b :: l) := NewIn.of kb N fun q hq => by
  rcases List.mem_cons.mp hq with rfl | hq
  · exact .head _
  · rcases List.mem_cons.mp hq with rfl | hq
    · exact .tail _ (.head _)
    · exact .tail _ (.tail _ (.tail _ hq))
theorem IsList.keep2 {h h' : Heap} {l : Addr} {its : Array Value} (T : h.IsList l its) (k : Keep h h') : h'.IsList l its := by
  obtain ⟨o, e, r⟩ := T
  exact ⟨o, k _ _ e, r⟩
theorem c_told_gp {g gd l : Addr} {a : Str} {T : GT} {es : List EA} (G : Gr w base) (B : Below A base fr s.heap) (hR : Room A 5) (I : Inst2 s.heap g 180 gd (gpDict w.params a l T)) (hl : s.heap.IsList l (refsE es).toArray) (hes : ∀ e ∈ es, EOk w.params true e) (hled : ∀ q ∈ ledE es, s.heap.get? q.1 = some q.2) (hlen : es.length ≤ 999)
  (hret : ∀ x t u0 u1 ds h' tk', (∀ d ∈ ds, DOk true d) → ds.map (·.pl) = es.map (·.pl) → Keep s.heap h' → NewIn s.heap h' ((x, gpT a t u0 u1) :: (t, tupO (refsD ds)) :: ledD ds) → Q (.ref x) { s with heap := h', toks := tk' }) :
  wpAny (model prog w) A (call (.ref 177) [.ref g]) Q E s := by
  k_extra "m enter"
  case kbinds => exact [("self", .ref g)]
  k_extra "m pure"
  have I' := I.keep kb.keep
  have hl' : _ := IsList.keep2 hl kb.keep
  have hled' := fun q hq => kb.keep _ _ (hled q hq)
  clear hl hled
  have stop : StopComp := ⟨rfl⟩
  k_steps
  refine Hold.go ?_
  refine LCg.ListComp_U (F₀ := by k_asm) (by with_unfolding_all rfl) (by decide) (by rfl) (by decide) (by rfl) ?_
  k_steps
  refine Hold.go (LCg.CompSrc.base rfl (by assumption) (by assumption) hl' (refsE_size (by omega)) ?_)
  intro g'
  refine rest_D (b := true) es ?_ (.inl hl') (fun _ _ h => h.elim .inl fun ⟨o, hm, r⟩ => .inr ⟨o, List.mem_append_left _ hm, r⟩) ?_
  · intro e he I oI C oC D oD m₂ h tk nw' E'' hC hx F N _
    have hok := hes e he
    have hle : ∀ q ∈ e.led, _ := fun q hq => hled' q (List.mem_flatMap.mpr ⟨e, he, hq⟩)
    clear I'
    obtain @⟨_, mm, md, a1, b1, c1, T1, hne1⟩ := hok
    have I' := Inst2.mbOf (P := w.params) (b := true) hle
    (try dsimp only)
    k_steps
    exact DEnd.intro ⟨x9, .mb a1 b1 c1, [(x9, mbT a1 b1 c1 u09 u19 u29 u39)]⟩ (.mb ..) rfl (by assumption) (by assumption) (fun q hq => .tail _ hq) (newIn_one hn9 ho9)
  · intro ds hds hpl
    unfold LCg.FinE
    intro D h tk F N off
    dsimp only
    rw [List.nil_append] at N off
    have hdl : ds.length = es.length := by rw [← List.length_map (f := (·.pl)), hpl, List.length_map]
    k_steps
    refine kde_tupleOf (zs := refsD ds) (items := (refsD ds).toArray) F N (News.isList N (.head _)) (by simp [refsD]; omega) (by simp) ?_
    intro t9 h' F' N' l1
    clear F N
    k_steps
    k_extra "m out"
    rename News _ _ _ _ => N9
    exact hret _ t9 _ _ ds _ _ hds hpl (kept0 kb (by assumption)) (NewIn.drop3 kb N9)
end
local macro_rules | `(tactic| k_inst) => `(tactic| (refine Inst2.at (by k_asm) (by assumption)))

-- 37_lwords
theorem item_tok2 {prog : Program} {w : World} {A : Around} {E : Value → Shared → Prop} {s : Shared} {value slice : PySem.Expr} {l : Addr} {xs : List TkA} {x : TkA} {k : Nat} {u : Tok} {Q : Value → Shared → Prop} (T : TokL s.heap l xs) (hx9 : xs[k]? = some x) (hx : xs.length ≤ 1000)
    (h : IsTup s.heap x.addr #[.str x.tk.kind.str x.u1, .bytes x.tk.worth x.u2, .int (x.tk.place : Int) x.u3] → Q (.ref x.addr) s)
    (hs : subscripted slice false (.ref l) (.int (k : Int) u) = operate [.ref l, .int (k : Int) u] (getItem (.ref l) (.int (k : Int) u)) := by with_unfolding_all rfl) (hg : ∀ r, letTemporaryGo value (.ref l) r = pure () := by intro _; with_unfolding_all rfl) :
    wpAny (model prog w) A (subscriptTail value slice (.ref l) (.int (k : Int) u)) Q E s := by
  obtain ⟨hk, _⟩ := List.getElem?_eq_some_iff.mp hx9
  refine item_tok T hk hx (fun x' e _ ht => ?_) hs hg
  rw [hx9] at e; cases e
  exact h ht
theorem item_tokS {prog : Program} {w : World} {A : Around} {E : Value → Shared → Prop} {s : Shared} {value slice : PySem.Expr} {l : Addr} {xs : List TkA} {k : Nat} {u : Tok} {Q : Value → Shared → Prop} (T : TokL s.heap l xs) (hk : k + 1 < xs.length) (hx : xs.length ≤ 1000)
    (h : ∀ x, xs[k + 1]? = some x → x ∈ xs → IsTup s.heap x.addr #[.str x.tk.kind.str x.u1, .bytes x.tk.worth x.u2, .int (x.tk.place : Int) x.u3] → Q (.ref x.addr) s)
    (hs : subscripted slice false (.ref l) (.int ((k : Int) + 1) u) = operate [.ref l, .int ((k : Int) + 1) u] (getItem (.ref l) (.int ((k : Int) + 1) u)) := by with_unfolding_all rfl) (hg : ∀ r, letTemporaryGo value (.ref l) r = pure () := by intro _; with_unfolding_all rfl) :
    wpAny (model prog w) A (subscriptTail value slice (.ref l) (.int ((k : Int) + 1) u)) Q E s := item_tok (k := k + 1) T hk hx h hs hg
theorem setup_lw0 : True := by
  k_with "m item" => ((with_reducible show wpAny _ _ (subscriptTail _ _ (Value.ref _) (Value.int _ _)) _ _ _); (try dsimp only); k_extra "m names"; k_dflt (refine item_tok2 (TokL.keep (by assumption) (Fr.keep kF)) (by assumption) (by k_extra "m om") ?_); intro hu9; (try dsimp only at hu9))
  trivial
theorem at_bytes {Q : Value → Shared → Prop} {i j : Array UInt8} {tk : Tok} {s : Shared} (h : Q (.bytes i tk) s) (e : i = j) : Q (.bytes j tk) s := e ▸ h
noncomputable def signAt (ts : List Tk) (k : Nat) : Array UInt8 := match ts[k]? with
  | none => #[]
  | some t => if (t.kind.str == Str.ofString "sign") = true then t.worth else #[]
theorem sign_stands {ts : List Tk} {k : Nat} {sg : Array UInt8} (h : sg.toList ≠ []) : ((signAt ts k).toList == sg.toList) = standsAt ts k sg := by
  unfold signAt standsAt
  have e : ((#[] : Array UInt8).toList == sg.toList) = false := by
    cases q : sg.toList with
    | nil => exact absurd q h
    | cons a r => rfl
  cases ts[k]? with
  | none => exact e
  | some t =>
    dsimp only
    cases t.kind.str == Str.ofString "sign" with
    | true => simp
    | false => simpa using e
theorem eq_of_ne {a b : Str} (h : (a != b) = false) : (a == b) = true := by simpa [bne] using h
theorem wordOn_of {xs : List TkA} {k : Nat} {x : TkA} (h : xs[k]? = some x) : wordOn (xs.map (·.tk)) k = ((x.tk.kind.str != Str.ofString "sign") || ((x.tk.kind.str == Str.ofString "sign") && (x.tk.worth.toList == #[46].toList))) := by
  unfold wordOn kindAt standsAt
  rw [get_some h]
section
variable {prog : Program} {w : World}
  {A : Around} {base : Heap} {fr : List Env} {s : Shared} {Q : Value → Shared → Prop} {E : Value → Shared → Prop}
theorem c_law_words {l : Addr} {xs : List TkA} {k : Nat} {u : Tok} (G : Gr w base) (B : Below A base fr s.heap) (hR : Room A 2) (T : TokL s.heap l xs) (hx : xs.length ≤ 999) (hk : k ≤ xs.length)
  (hret : ∀ t1 h' tk', Keep s.heap h' → Q (.int (wordsTo (xs.map (·.tk)) k : Nat) t1) { s with heap := h', toks := tk' }) :
  wpAny (model prog w) A (call (.ref 341) [.ref l, .int k u]) Q E s := by
  k_extra "m enter"
  case kbinds => exact [("tokens", .ref l), ("at", .int k u)]
  k_extra "m pure"
  have hT' := T.keep (fun b o e => kb b o (by simp) e)
  unfold wordsTo at hret
  rw [len_tk] at hret
  generalize hW : wordEnd (xs.map (·.tk)) (xs.length + 1) k = W at hret
  k_steps
  refine Hold.go ?_
  refine while_own (σ := Nat × Nat × Tok) (fun _ => []) (fun c => [("at", .int (c.2.1 : Int) c.2.2), ("tokens", .ref l)])
    (fun c => wordEnd (xs.map (·.tk)) c.1 c.2.1 = W ∧ xs.length < c.2.1 + c.1 ∧ c.2.1 ≤ xs.length) (fun c => c.1) (xs.length + 1, k, u) (by assumption) (by assumption) (fun _ h => nomatch h) ⟨hW, by dsimp only; omega, hk⟩ ⟨rfl, rfl, trivial⟩ ?_ (Inside.pass IN)
  refine pr3 fun f j tj u₁ h tk2 => an3 fun hp1 hp2 hp3 F' N' => ?_
  dsimp only at hp1 hp2 hp3 F' N'
  obtain ⟨f', rfl⟩ : ∃ f', f = f' + 1 := by first | exact fuel (by assumption) (by assumption) | exact fuel2 (by assumption) (by assumption) | exact ⟨f - 1, by omega⟩
  rw [wordEnd, len_tk] at hp1
  have stopB : StopBool := ⟨rfl⟩
  (try dsimp only)
  k_steps
  refine Hold.go (cutAt (σ := Unit) (by assumption) (fun _ => []) (fun _ => [("at", .int (j : Int) tj), ("tokens", .ref l)]) (fun v _ => v = (decide (j < xs.length) && wordOn (xs.map (·.tk)) j)) ?_ ?_)
  · (rename StopBool => st0; clear st0)
    k_steps
    all_goals first
      | (rename (x9.tk.kind.str != _) = true => h1; exact Cut.intro () (by assumption) (by assumption) (by rw [decide_eq_true (by omega), wordOn_of hx9, h1]; rfl) (fun _ h => nomatch h) ⟨rfl, rfl, trivial⟩)
      | (rename (x9.tk.kind.str != _) = false => h1; rename (x9.tk.worth.toList == _) = _ => h2; exact Cut.intro () (by assumption) (by assumption) (by rw [decide_eq_true (by omega), wordOn_of hx9, h1, eq_of_ne h1, h2]; rfl) (fun _ h => nomatch h) ⟨rfl, rfl, trivial⟩)
      | exact Cut.intro () (by assumption) (by assumption) (by rw [decide_eq_false (by omega)]; rfl) (fun _ h => nomatch h) ⟨rfl, rfl, trivial⟩
  · rintro v _ u₂ h' tk' hv F' N'
    (rename StopBool => st0; clear st0)
    cases v with
    | true =>
      have hv2 := hv.symm
      simp only [Bool.and_eq_true, decide_eq_true_eq] at hv2
      rw [if_pos hv2.1, if_pos hv2.2] at hp1
      have hjl := hv2.1
      simp only [if_true]
      k_steps
      k_extra "m turn"
      exact WEnd.intro (f', j + 1, _) (by assumption) (by assumption) (fun _ h => nomatch h) ⟨hp1, by dsimp only; omega, by dsimp only; omega⟩ (Nat.lt_succ_self _) ⟨rfl, rfl, trivial⟩
    | false =>
      have e : j = W := by
        rw [← hp1]
        by_cases hj : j < xs.length
        · rw [if_pos hj, if_neg]
          intro hw
          rw [decide_eq_true hj, hw] at hv; cases hv
        · rw [if_neg hj]
      subst e
      simp only [Bool.false_eq_true, if_false]
      k_steps
      dsimp only
      k_extra "m out"
      exact hret _ _ _ (kept0 kb (by assumption))
theorem c_law_sign {l : Addr} {xs : List TkA} {k : Nat} {u : Tok} (G : Gr w base) (B : Below A base fr s.heap) (hR : Room A 2) (T : TokL s.heap l xs) (hx : xs.length ≤ 999) (hk : k ≤ 1000)
  (hret : ∀ t1 h' tk', Keep s.heap h' → Q (.bytes (signAt (xs.map (·.tk)) k) t1) { s with heap := h', toks := tk' }) :
  wpAny (model prog w) A (call (.ref 353) [.ref l, .int k u]) Q E s := by
  k_extra "m enter"
  case kbinds => exact [("tokens", .ref l), ("at", .int k u)]
  k_extra "m pure"
  have hT' := T.keep (fun b o e => kb b o (by simp) e)
  k_steps
  all_goals (k_extra "m out"; refine at_bytes (hret _ _ _ (kept0 kb (by assumption))) ?_; unfold signAt)
  · rw [get_some hx9]; dsimp only; rw [if_pos (by assumption)]
  · rw [get_some hx9]; dsimp only; rw [if_neg (no_true (by assumption))]
  · rw [get_none (by omega)]
theorem c_law_text {b : Array UInt8} {t : Tok} (G : Gr w base) (B : Below A base fr s.heap) (hR : Room A 3) (hx : b.size ≤ 1000000)
  (hret : ∀ tk h' tk', Keep s.heap h' → Q (.str (textOf b) tk) { s with heap := h', toks := tk' }) :
  wpAny (model prog w) A (call (.ref 346) [.bytes b t]) Q E s := by
  k_extra "m enter"
  case kbinds => exact [("octets", .bytes b t)]
  k_extra "m pure"
  have stop : StopComp := ⟨rfl⟩
  k_steps
  refine Hold.go ?_
  refine comp_bytes (by k_asm) (by with_unfolding_all rfl) (by decide) (by rfl) (by decide) (by rfl) ?_
  k_steps
  refine SrcB.mk rfl (by assumption) (by assumption) (by rw [sizeLine_eq]; omega) ?_
  intro g'
  refine rest_U (R := fun i y => ∃ c u, b[i]? = some c ∧ y = .str ⟨#[c.toNat]⟩ u) b.size ?_ trivial ?_
  · rintro i v hi ⟨c, u, hc, rfl⟩ I oI C oC D oD m₂ h tk E'' hC hx F N
    have hc2 := c.toNat_lt
    (try dsimp only)
    k_steps
    · exact F
    · exact N
  · intro ys hl hy
    unfold LCg.FinE
    intro D h tk F N off
    dsimp only
    k_steps
    refine join_list (News.isList N (.head _)) (strs_of hl hy) (by rw [signs_sum, show Str.length (Str.ofString "") = 0 from by decide +kernel]; omega) ?_
    intro t' k'
    dsimp only
    k_extra "m out"
    exact hret _ _ _ (kept0 kb F)
end
theorem setup_lwords : True := by
  k_with "m item" => ((with_reducible show wpAny _ _ (subscriptTail _ _ (Value.ref _) (Value.int (_ + _) _)) _ _ _); (try dsimp only); k_extra "m names"; k_dflt (refine item_tokS (TokL.keep (by assumption) (Fr.keep kF)) (by k_extra "m om") (by k_extra "m om") ?_); intro x9 hx9 hm9 hu9; (try dsimp only at hu9))
  k_with "m item" => ((with_reducible show wpAny _ _ (subscriptTail _ _ (Value.ref _) (Value.int _ _)) _ _ _); (try dsimp only); k_extra "m names"; k_dflt (refine item_tok2 (TokL.keep (by assumption) (Fr.keep kF)) (by assumption) (by k_extra "m om") ?_); intro hu9; (try dsimp only at hu9))
  k_with "m call" => ((with_reducible show wpAny _ _ (call (Value.ref 341) _ _) _ _ _); (try dsimp only); k_extra "m names"; k_dflt (refine' c_law_words G (Inside.below IN kF) (Room.less hR' (by k_extra "m om")) ?kT ?kx ?kk ?_); (case kT => k_extra "m toks"); (case kx => k_extra "m om"); (case kk => k_extra "m om"); intro tk' h' tk2' kk'; k_extra "m after")
  k_with "m call" => ((with_reducible show wpAny _ _ (call (Value.ref 346) _ _) _ _ _); (try dsimp only); k_extra "m names"; k_dflt (refine' c_law_text G (Inside.below IN kF) (Room.less hR' (by k_extra "m om")) ?ktz ?_); (case ktz => k_extra "m tsz"); intro tk' h' tk2' kk'; k_extra "m after")
  k_with "m call" => ((with_reducible show wpAny _ _ (call (Value.ref 353) _ _) _ _ _); (try dsimp only); k_extra "m names"; k_dflt (refine' c_law_sign G (Inside.below IN kF) (Room.less hR' (by k_extra "m om")) ?kT ?kx ?kk ?_); (case kT => k_extra "m toks"); (case kx => k_extra "m om"); (case kk => k_extra "m om"); intro tk' h' tk2' kk'; k_extra "m after")
  trivial

-- 38_lphrase
noncomputable def rangeItems2 (f n : Nat) : List Itm := (List.range n).map fun (i : Nat) => Itm.tok fun t => .int ((f + i : Nat) : Int) t
theorem range_item2 {f n i : Nat} {a : Itm} {r : List Itm} (h : a :: r = (rangeItems2 f n).drop i) : i < n ∧ a = (Itm.tok fun t => .int ((f + i : Nat) : Int) t) ∧ r = (rangeItems2 f n).drop (i + 1) := by
  unfold rangeItems2 at h ⊢
  have hl : i < n := by
    have := congrArg List.length h
    simp at this; omega
  rw [List.drop_eq_getElem_cons (by simpa using hl)] at h
  obtain ⟨e1, e2⟩ := List.cons.inj h
  exact ⟨hl, by rw [e1]; simp, e2⟩
theorem iter_rangeTurns2 {prog : Program} {w : World} {A : Around} {E : Value → Shared → Prop} {s : Shared} {h₀ : Heap} {env : Env} {target : PySem.Expr} {body : List Stmt} {Q : Flow → Shared → Prop} {r : Addr} {t u v : Tok} {f e n : Nat} {m₀ : Str → Option Value} {news : List (Addr × Obj)}
    (hh : A.handled = none) (hr : IsRange s.heap r (f : Int) (e : Int) 1 t u v) (hfe : f + n = e) (hn9 : e ≤ 100000) (F : Fr h₀ env.locals s.heap m₀) (N : News h₀ env.locals s.heap news)
    (rest₀ : ∀ I : Addr, (∀ p ∈ news, p.1 < I) → ItemsRest prog w A E h₀ env target body Q s [(I, "range_iterator")] [] (rangeItems2 f n) m₀ news) :
    wpAny (model prog w) A (pyIter (.ref r)) (fun it s₂ => TurnsAt prog w A h₀ env target body Q E it s₂) E s := by
  have hn : Builtin.Range.rangeSize (f : Int) (e : Int) 1 = ((n : Nat) : Int) := by
    rw [rangeSize_one]; split <;> omega
  have hsm : Builtin.Range.small (f : Int) (e : Int) 1 = true := by
    have q : ∀ i : Int, 0 ≤ i → i ≤ 200000 → Builtin.Range.rangeFitsLong i = true := fun i a b => by unfold Builtin.Range.rangeFitsLong; simp; omega
    unfold Builtin.Range.small
    rw [hn, q f (by omega) (by omega), q e (by omega) (by omega), q 1 (by omega) (by omega), if_pos (by omega), q ((e : Int) + (1 - 1)) (by omega) (by omega), q n (by omega) (by omega)]
    simp
  refine wpAny_pyIter_range hr hsm ?_
  refine ktu_core (tk0 := s.toks) (keep := []) (KTurns.ofWalks (Walks.range hh s.heap.objs.size (f : Int) 1 n).bound fun i v s Q E st q => letGo_range st q) (by simp [rangeItems2]) (fun i v h hp => ?_) (fun i h st => ?_) (fun b hb => ?_) (fun b hb => by simpa using hb) (fun b hb => ?_) ?_ (fun p hp hI => ?_) ?_ (F.push _) (fun p hp => ⟨Heap.get?_push_of_some _ (N p hp).1, (N p hp).2⟩) trivial (rest₀ _ fun p hp => Heap.lt_size (N p hp).1)
  · obtain ⟨hi, t, rfl⟩ := hp
    refine ⟨Itm.tok fun t => .int ((f + i : Nat) : Int) t, by unfold rangeItems2; rw [List.getElem?_map, List.getElem?_range hi]; rfl, ?_⟩
    exact ⟨t, by rw [Int.mul_one]; rfl⟩
  · exact ⟨[(s.heap.objs.size, { cls := .type "range_iterator", dict := none, data := .fields #[rawInt ((f : Int) + (i : Nat) * 1), rawInt ((n : Int) - (i : Nat)), rawInt 1], slots := #[] })], ⟨⟨rfl, rfl⟩, trivial⟩, fun p hp => by rw [List.mem_singleton.mp hp]; exact st⟩
  · have hb' : b = s.heap.objs.size := by simpa using hb
    rw [hb']
    exact ⟨List.mem_cons_self .., next_is_new F⟩
  · have hb' : b = s.heap.objs.size := by simpa using hb
    exact .inl (by simp [hb'])
  · intro hI
    exact absurd F.ns.lt ((List.mem_singleton.mp hI) ▸ Nat.lt_irrefl _)
  · exact absurd (Heap.lt_size (N p hp).1) ((List.mem_singleton.mp hI) ▸ Nat.lt_irrefl _)
  · show IsRangeIter _ _ _ _ _
    rw [hn]; simpa using Heap.get?_push_size _ rfl
noncomputable def worded (t : Tk) : Prop := t.kind ≠ .comment ∧ ((t.kind.str == Str.ofString "sign") = true → (t.worth.toList == #[46].toList) = true)
theorem textOf_append (a b : Array UInt8) : textOf (a ++ b) = textOf a ++ textOf b := by
  rw [textOf_eq, textOf_eq, textOf_eq]
  show _ = (⟨_ ++ _⟩ : Str)
  simp
theorem text_space : textOf #[32] = Str.ofString " " := by rw [textOf_eq]; decide +kernel
theorem text_nil : Str.ofString "" = textOf (joined []) := by rw [textOf_eq]; decide +kernel
theorem len_space : (Str.ofString " ").length = 1 := by decide +kernel
theorem worded_point {t : Tk} (h : worded t) : isPoint t = (t.kind.str == Str.ofString "sign") := by
  unfold isPoint
  cases q : t.kind.str == Str.ofString "sign" with
  | true => rw [h.2 q]; rfl
  | false => rfl
theorem worded_lit {t : Tk} (h : worded t) : (wordKind t = false ∧ isPoint t = false) ↔ (t.kind.str == Str.ofString "literal") = true := by
  rw [worded_point h]
  unfold wordKind
  have := h.1
  obtain ⟨k, x, p⟩ := t
  cases k <;> simp_all <;> decide +kernel
theorem phrase_step {t : Tk} {r : List Tk} {gl gl2 : Int} {acc : List (Array UInt8)} {o : Nat} {W : Except Int (List (Array UInt8))} (hx : worded t) (hl : (t.kind.str == Str.ofString "literal") = false) (h3 : 0 < acc.length ↔ 0 < o) (h4 : 0 < o → gl2 = gl)
    (h : (if wordKind t = false ∧ isPoint t = false then Except.error (t.place : Int) else phraseGo r (if isPoint t = true then (t.place : Int) + 1 else -1) ((if 0 < acc.length ∧ isPoint t = false ∧ (t.place : Int) ≠ gl2 then acc ++ [#[32]] else acc) ++ [t.worth])) = W) (v : Bool) (hv : (decide (0 < o) && ((t.kind.str != Str.ofString "sign") && decide ((t.place : Int) ≠ gl))) = v) :
    phraseGo r (if (t.kind.str == Str.ofString "sign") = true then (t.place : Int) + 1 else -1) ((if v = true then acc ++ [#[32]] else acc) ++ [t.worth]) = W := by
  rw [if_neg (fun e => by rw [(worded_lit hx).mp e] at hl; cases hl), worded_point hx] at h
  rw [← h, ← hv]
  congr 2
  by_cases ho : 0 < o
  · have h5 := h4 ho
    subst h5
    simp [bne, ho, h3.mpr ho]
  · have : ¬ 0 < acc.length := fun q => ho (h3.mp q)
    rw [if_neg (by simp [ho]), if_neg (fun q => this q.1)]
theorem span_drop {xs : List TkA} {i j o : Nat} {x : TkA} (h : xs[i + o]? = some x) (hj : i + o < j) : (span xs i j).drop o = x :: (span xs i j).drop (o + 1) := by
  unfold span
  rw [List.drop_take, List.drop_take, List.drop_drop, List.drop_drop]
  obtain ⟨hl, e⟩ := List.getElem?_eq_some_iff.mp h
  rw [List.drop_eq_getElem_cons hl, e, show j - i - o = (j - i - (o + 1)) + 1 by omega, List.take_succ_cons]
  rfl
theorem span_at {xs : List TkA} {i j o : Nat} {x : TkA} (h : xs[i + o]? = some x) (hj : i + o < j) : x ∈ span xs i j := List.mem_of_mem_drop (span_drop h hj ▸ List.mem_cons_self)
theorem setup_lp0 : True := by
  k_with "m stradd" => (k_dflt (refine SB.add ?_ (by simp only [sizeLine_eq, Str.length_append, textOf_len, len_space, len_lb, len_rb]; k_extra "m om")); intro t8' k8'; (try dsimp only))
  trivial
section
variable {prog : Program} {w : World}
  {A : Around} {base : Heap} {fr : List Env} {s : Shared} {Q : Value → Shared → Prop} {E : Value → Shared → Prop}
theorem c_law_phrase {l : Addr} {xs : List TkA} {i j : Nat} {u u' : Tok} (G : Gr w base) (B : Below A base fr s.heap) (hR : Room A 5) (T : TokL s.heap l xs) (hx : xs.length ≤ 999) (hij : i ≤ j) (hj : j ≤ xs.length) (hwz : ∀ x ∈ xs, x.tk.worth.size ≤ 999 ∧ x.tk.place ≤ 999) (hww : ∀ x ∈ span xs i j, worded x.tk)
  (hret : ∀ o, phraseOf ((span xs i j).map (·.tk)) = .ok o → ∀ a t1 t2 h' tk', Keep s.heap h' → s.heap.get? a = none → h'.get? a = some (tupO [.str (textOf o) t1, .int (-1) t2]) → Q (.ref a) { s with heap := h', toks := tk' })
  (hretE : ∀ q, phraseOf ((span xs i j).map (·.tk)) = .error q → ∀ a t2 h' tk', Keep s.heap h' → s.heap.get? a = none → h'.get? a = some (tupO [.none, .int q t2]) → Q (.ref a) { s with heap := h', toks := tk' }) :
  wpAny (model prog w) A (call (.ref 360) [.ref l, .int i u, .int j u']) Q E s := by
  k_extra "m enter"
  case kbinds => exact [("tokens", .ref l), ("first", .int i u), ("end", .int j u')]
  k_extra "m pure"
  have hT' := T.keep (fun b o e => kb b o (by simp) e)
  have stop : StopComp := ⟨rfl⟩
  generalize hW : phraseGo ((span xs i j).map (·.tk)) 0 [] = W
  rw [phraseOf, hW] at hret hretE
  k_steps
  refine Hold.go (For_turns (by assumption) ?_ (by intro _; rfl) (Inside.pass IN))
  k_steps
  refine Hold.go (iter_rangeTurns2 (f := i) (e := j) (n := j - i) rfl (by assumption) (by omega) (by omega) (by assumption) (by assumption) fun I hI => ?_)
  refine for_rest (σ := Nat × Int × Tok × Str × Tok × Int × List (Array UInt8)) (fun c => []) (fun c => [("glued", .int c.2.1 c.2.2.1), ("found", .str c.2.2.2.1 c.2.2.2.2.1), ("tokens", .ref l), ("first", .int i u), ("end", .int j u')])
    (fun rr c => rr = (rangeItems2 i (j - i)).drop c.1 ∧ phraseGo (((span xs i j).drop c.1).map (·.tk)) c.2.2.2.2.2.1 c.2.2.2.2.2.2 = W ∧ (0 < c.2.2.2.2.2.2.length ↔ 0 < c.1) ∧ (0 < c.1 → c.2.2.2.2.2.1 = c.2.1) ∧ c.2.2.2.1 = textOf (joined c.2.2.2.2.2.2) ∧ c.2.2.2.1.length ≤ 1001 * c.1 ∧ c.1 ≤ j - i ∧ -1 ≤ c.2.1 ∧ c.2.1 ≤ 100000)
    I "range_iterator" [] (fun c => trivial) (fun c p hp => nomatch hp) ?_ ?_ _ (0, -1, _, Str.ofString "", _, 0, []) _ _ ⟨rfl, hW, Iff.rfl, (fun h => absurd h (Nat.lt_irrefl _)), text_nil, (Nat.le_of_eq (by decide +kernel : (Str.ofString "").length = 0)), Nat.zero_le _, by dsimp only; omega, by dsimp only; omega⟩ ⟨rfl, rfl, rfl, rfl, rfl, trivial⟩ (fun p hp => hp)
  · refine fun a rr => pr7 fun o gl tg fo tf gl2 acc u₁ h tk v ob => an9 fun hr hp1 hp2 hp3 hp4 hp5 hp6 hp7 hp8 hv F' N' => ?_
    dsimp only at hr hp1 hp2 hp3 hp4 hp5 hp6 hp7 hp8 F' N'
    obtain ⟨hil, rfl, hrr⟩ := range_item2 hr
    obtain ⟨ti, rfl⟩ := hv
    have hiox : i + o < xs.length := by omega
    have hx9 := List.getElem?_eq_getElem hiox
    generalize xs[i + o] = x at hx9
    have hxw := hwz x (List.mem_of_getElem? hx9)
    have hxx := hww x (span_at hx9 (by omega))
    rw [span_drop hx9 (by omega), List.map_cons, phraseGo] at hp1
    have stopB : StopBool := ⟨rfl⟩
    (try dsimp only)
    k_steps
    · rename (x.tk.kind.str == _) = true => h1
      rw [if_pos ((worded_lit hxx).mpr h1)] at hp1
      subst hp1
      dsimp only [FPost]
      k_extra "m out"
      rename News _ _ _ _ => N9
      exact hretE _ rfl _ _ _ _ (kept0 kb (by assumption)) (newest kb N9).1 (newest kb N9).2
    · rename (x.tk.kind.str == _) = false => h1
      have hp1 := phrase_step hxx h1 hp2 hp3 hp1 _ rfl
      refine Hold.go (cutAt (σ := Unit) (by assumption) (fun _ => [(I, ob)]) (fun _ => [("at", .int (x.tk.place : Int) x.u3), ("worth", .bytes x.tk.worth x.u2), ("kind", .str x.tk.kind.str x.u1), ("glued", .int gl tg), ("found", .str fo tf), ("tokens", .ref l), ("first", .int i u), ("end", .int j u')]) (fun v _ => v = (decide (0 < o) && ((x.tk.kind.str != Str.ofString "sign") && decide ((x.tk.place : Int) ≠ gl)))) ?_ ?_)
      · (rename StopBool => st0; clear st0)
        k_steps
        · rename (x.tk.kind.str != _) = true => h8
          rename ¬ ((_ : Int) = gl) => h9
          exact Cut.intro () (by assumption) (by assumption) (by rw [decide_eq_true (show 0 < o by omega), h8, decide_eq_true h9]; rfl) (fun p hp => hp) ⟨rfl, rfl, rfl, rfl, rfl, rfl, rfl, rfl, trivial⟩
        · rename (x.tk.kind.str != _) = true => h8
          rename ((_ : Int) = gl) => h9
          exact Cut.intro () (by assumption) (by assumption) (by rw [decide_eq_true (show 0 < o by omega), h8, decide_eq_false (fun q => q h9)]; rfl) (fun p hp => hp) ⟨rfl, rfl, rfl, rfl, rfl, rfl, rfl, rfl, trivial⟩
        · rename (x.tk.kind.str != _) = false => h8
          exact Cut.intro () (by assumption) (by assumption) (by rw [decide_eq_true (show 0 < o by omega), h8]; rfl) (fun p hp => hp) ⟨rfl, rfl, rfl, rfl, rfl, rfl, rfl, rfl, trivial⟩
        · exact Cut.intro () (by assumption) (by assumption) (by rw [decide_eq_false (show ¬ 0 < o by omega)]; rfl) (fun p hp => hp) ⟨rfl, rfl, rfl, rfl, rfl, rfl, rfl, rfl, trivial⟩
      · rintro v _ u₂ h' tk' hv F' N'
        rw [← hv] at hp1
        (rename StopBool => st0; clear st0)
        cases v with
        | true =>
          have hv2 := hv.symm
          simp only [Bool.and_eq_true, decide_eq_true_eq] at hv2
          have hns : (x.tk.kind.str == Str.ofString "sign") = false := by simpa [bne] using hv2.2.1
          simp only [if_true]
          k_steps
          rw [if_neg (no_true hns), if_pos rfl] at hp1
          k_extra "m turn"
          exact FEnd.intro (o + 1, -1, _, fo ++ Str.ofString " " ++ textOf x.tk.worth, _, -1, acc ++ [#[32]] ++ [x.tk.worth]) (by assumption) (by assumption) (.head _) (fun _ h => nomatch h) ⟨hrr, hp1, by simp, fun _ => rfl, by dsimp only; rw [joined_push, joined_push, textOf_append, textOf_append, text_space, ← hp4], by dsimp only; simp only [Str.length_append, textOf_len, len_space]; omega, by dsimp only; omega, by dsimp only; omega, by dsimp only; omega⟩ ⟨rfl, rfl, rfl, rfl, rfl, trivial⟩
        | false =>
          simp only [Bool.false_eq_true, if_false]
          rw [if_neg (show ¬ (false = true) by decide)] at hp1
          k_steps
          · rw [if_pos (by assumption)] at hp1
            k_extra "m turn"
            exact FEnd.intro (o + 1, (x.tk.place : Int) + 1, _, fo ++ textOf x.tk.worth, _, (x.tk.place : Int) + 1, acc ++ [x.tk.worth]) (by assumption) (by assumption) (.head _) (fun _ h => nomatch h) ⟨hrr, hp1, by simp, fun _ => rfl, by dsimp only; rw [joined_push, textOf_append, ← hp4], by dsimp only; simp only [Str.length_append, textOf_len]; omega, by dsimp only; omega, by dsimp only; omega, by dsimp only; omega⟩ ⟨rfl, rfl, rfl, rfl, rfl, trivial⟩
          · rw [if_neg (no_true (by assumption))] at hp1
            k_extra "m turn"
            exact FEnd.intro (o + 1, -1, _, fo ++ textOf x.tk.worth, _, -1, acc ++ [x.tk.worth]) (by assumption) (by assumption) (.head _) (fun _ h => nomatch h) ⟨hrr, hp1, by simp, fun _ => rfl, by dsimp only; rw [joined_push, textOf_append, ← hp4], by dsimp only; simp only [Str.length_append, textOf_len]; omega, by dsimp only; omega, by dsimp only; omega, by dsimp only; omega⟩ ⟨rfl, rfl, rfl, rfl, rfl, trivial⟩
  · refine pr7 fun o gl tg fo tf gl2 acc u₁ h tk => an9 fun hr hp1 hp2 hp3 hp4 hp5 hp6 hp7 hp8 F' N' => ?_
    dsimp only at hr hp1 hp2 hp3 hp4 hp5 hp6 hp7 hp8 F' N'
    have hii : o = j - i := by
      have := congrArg List.length hr
      simp [rangeItems2] at this; omega
    subst hii
    have hsl := @span_len xs i j hj
    rw [List.drop_eq_nil_of_le (Nat.le_of_eq hsl), List.map_nil, phraseGo] at hp1
    subst hp1
    subst hp4
    (try dsimp only)
    k_steps
    k_extra "m out"
    rename News _ _ _ _ => N9
    exact hret _ rfl _ _ _ _ _ (kept0 kb (by assumption)) (newest kb N9).1 (newest kb N9).2
end
theorem setup_lphrase : True := by
  k_with "m stradd" => (k_dflt (refine SB.add ?_ (by simp only [sizeLine_eq, Str.length_append, textOf_len, len_space, len_lb, len_rb]; k_extra "m om")); intro t8' k8'; (try dsimp only))
  k_with "m call" => ((with_reducible show wpAny _ _ (call (Value.ref 360) _ _) _ _ _); (try dsimp only); k_extra "m names"; k_dflt (refine' c_law_phrase G (Inside.below IN kF) (Room.less hR' (by k_extra "m om")) ?kT ?kx ?kij ?kj hwz ?kww ?_ ?_); (case kT => k_extra "m toks"); (case kx => k_extra "m om"); (case kij => k_extra "m om"); (case kj => k_extra "m om"); (case kww => k_extra "m worded"); rotate_left 1; (intro q hq a' t1' h' tk' kk' hn ho; dsimp only at kk' hn; have N' := News.add kF kN kk' hn ho; have F' := Fr.keepAll kF kk'; have ne' := News.ne kN hn; simp only [AllNe, and_true] at ne'; clear kF kN hn ho kk'; (try dsimp only)); rotate_right 1; (intro o9 hsp a' t1' t2' h' tk' kk' hn ho; dsimp only at kk' hn; have N' := News.add kF kN kk' hn ho; have F' := Fr.keepAll kF kk'; have ne' := News.ne kN hn; simp only [AllNe, and_true] at ne'; clear kF kN hn ho kk'; (try dsimp only)))
  trivial

-- 39_llocal
theorem sub_mod (i o : Nat) : (((i + o : Nat) : Int) - (i : Int)) = (o : Int) := by omega
theorem any_one (k c : Str) : ([c].any fun z => z == k) = (c == k) := by simp
theorem notLocal_even {t : Tk} {o : Nat} (hk : t.kind ≠ .comment) (h : (o : Int).fmod 2 = 0) : notLocal t o = !([Str.ofString "atom", Str.ofString "quoted"].any fun z => z == t.kind.str) := by
  unfold notLocal
  rw [h, kd_words]
  obtain ⟨k, x, p⟩ := t
  dsimp only at hk ⊢
  clear x p h
  revert hk
  cases k <;> decide +kernel
theorem notLocal_odd {t : Tk} {o : Nat} (hk : t.kind ≠ .comment) (h : ¬ (o : Int).fmod 2 = 0) : notLocal t o = !([Str.ofString "sign"].any fun z => z == t.kind.str) := by
  unfold notLocal
  have e : (o : Int).fmod 2 = 1 := by
    rw [Int.fmod_eq_emod_of_nonneg _ (by omega)] at h ⊢
    omega
  rw [e]
  clear e
  obtain ⟨k, x, p⟩ := t
  dsimp only at hk ⊢
  clear x p h
  revert hk
  cases k <;> decide +kernel
theorem setup_ll0 : True := by
  k_with "m stradd" => (k_dflt (refine SB.add ?_ (by simp only [sizeLine_eq, Str.length_append, textOf_len, len_space, len_lb, len_rb]; k_extra "m om")); intro t8' k8'; (try dsimp only))
  trivial
section
variable {prog : Program} {w : World}
  {A : Around} {base : Heap} {fr : List Env} {s : Shared} {Q : Value → Shared → Prop} {E : Value → Shared → Prop}
theorem c_law_local {l : Addr} {xs : List TkA} {i j : Nat} {pl : Int} {u u' u'' : Tok} (G : Gr w base) (B : Below A base fr s.heap) (hR : Room A 5) (T : TokL s.heap l xs) (hx : xs.length ≤ 999) (hij : i ≤ j) (hj : j ≤ xs.length) (hwz : ∀ x ∈ xs, x.tk.worth.size ≤ 999 ∧ x.tk.place ≤ 999) (hnc : ∀ x ∈ xs, x.tk.kind ≠ .comment)
  (hret : ∀ o, localOf ((span xs i j).map (·.tk)) pl = .ok o → ∀ a t1 t2 h' tk', Keep s.heap h' → s.heap.get? a = none → h'.get? a = some (tupO [.str o t1, .int (-1) t2]) → Q (.ref a) { s with heap := h', toks := tk' })
  (hretE : ∀ q, localOf ((span xs i j).map (·.tk)) pl = .error q → ∀ a t2 h' tk', Keep s.heap h' → s.heap.get? a = none → h'.get? a = some (tupO [.none, .int q t2]) → Q (.ref a) { s with heap := h', toks := tk' }) :
  wpAny (model prog w) A (call (.ref 367) [.ref l, .int i u, .int j u', .int pl u'']) Q E s := by
  k_extra "m enter"
  case kbinds => exact [("tokens", .ref l), ("first", .int i u), ("end", .int j u'), ("place", .int pl u'')]
  k_extra "m pure"
  have hT' := T.keep (fun b o e => kb b o (by simp) e)
  have stop : StopComp := ⟨rfl⟩
  have hsl := @span_len xs i j hj
  have hml : ((span xs i j).map (·.tk)).length = j - i := by rw [List.length_map, hsl]
  generalize hW : localGo ((span xs i j).map (·.tk)) 0 [] = W
  rw [localOf, hW, hml] at hret hretE
  k_steps
  refine Hold.go (For_turns (by assumption) ?_ (by intro _; rfl) (Inside.pass IN))
  k_steps
  refine Hold.go (iter_rangeTurns2 (f := i) (e := j) (n := j - i) rfl (by assumption) (by omega) (by omega) (by assumption) (by assumption) fun I hI => ?_)
  refine for_rest (σ := Nat × Str × Tok × List (Array UInt8)) (fun c => []) (fun c => [("found", .str c.2.1 c.2.2.1), ("tokens", .ref l), ("first", .int i u), ("end", .int j u'), ("place", .int pl u'')])
    (fun rr c => rr = (rangeItems2 i (j - i)).drop c.1 ∧ localGo (((span xs i j).drop c.1).map (·.tk)) c.1 c.2.2.2 = W ∧ c.2.1 = textOf (joined c.2.2.2) ∧ c.2.1.length ≤ 1001 * c.1 ∧ c.1 ≤ j - i)
    I "range_iterator" [] (fun c => trivial) (fun c p hp => nomatch hp) ?_ ?_ _ (0, Str.ofString "", _, []) _ _ ⟨rfl, hW, text_nil, (Nat.le_of_eq (by decide +kernel : (Str.ofString "").length = 0)), Nat.zero_le _⟩ ⟨rfl, rfl, rfl, rfl, rfl, trivial⟩ (fun p hp => hp)
  · refine fun a rr => pr4 fun o fo tf acc u₁ h tk v ob => an5 fun hr hp1 hp2 hp3 hp4 hv F' N' => ?_
    dsimp only at hr hp1 hp2 hp3 hp4 F' N'
    obtain ⟨hil, rfl, hrr⟩ := range_item2 hr
    obtain ⟨ti, rfl⟩ := hv
    have hiox : i + o < xs.length := by omega
    have hx9 := List.getElem?_eq_getElem hiox
    generalize xs[i + o] = x at hx9
    have hxw := hwz x (List.mem_of_getElem? hx9)
    have hxx := hnc x (List.mem_of_getElem? hx9)
    rw [span_drop hx9 (by omega), List.map_cons, localGo] at hp1
    (try dsimp only)
    k_steps
    all_goals first | (rename (Int.fmod _ _ = _) => hm; rw [sub_mod] at hm; rw [notLocal_even hxx hm] at hp1) | (rename (Int.fmod _ _ ≠ _) => hm; rw [sub_mod] at hm; rw [notLocal_odd hxx hm] at hp1)
    all_goals (rename (List.any _ _ = _) => ha; rw [ha] at hp1; simp only [Bool.not_true, Bool.not_false, if_true, Bool.false_eq_true, if_false] at hp1)
    all_goals first
      | (subst hp1
         dsimp only [FPost]
         k_extra "m out"
         rename News _ _ _ _ => N9
         exact hretE _ rfl _ _ _ _ (kept0 kb (by assumption)) (newest kb N9).1 (newest kb N9).2)
      | (k_extra "m turn"
         exact FEnd.intro (o + 1, fo ++ textOf x.tk.worth, _, acc ++ [x.tk.worth]) (by assumption) (by assumption) (.tail _ (.head _)) (fun _ h => nomatch h) ⟨hrr, hp1, by dsimp only; rw [joined_push, textOf_append, ← hp2], by dsimp only; simp only [Str.length_append, textOf_len]; omega, by dsimp only; omega⟩ ⟨rfl, rfl, rfl, rfl, rfl, trivial⟩)
  · refine pr4 fun o fo tf acc u₁ h tk => an5 fun hr hp1 hp2 hp3 hp4 F' N' => ?_
    dsimp only at hr hp1 hp2 hp3 hp4 F' N'
    have hii : o = j - i := by
      have := congrArg List.length hr
      simp [rangeItems2] at this; omega
    subst hii
    rw [List.drop_eq_nil_of_le (Nat.le_of_eq hsl), List.map_nil, localGo] at hp1
    subst hp1
    subst hp2
    have hji : ((j - i : Nat) : Int) = (j : Int) - (i : Int) := by omega
    rw [hji] at hret hretE
    dsimp only at hret hretE
    (try dsimp only)
    k_steps
    · rw [if_pos (by assumption)] at hretE
      k_extra "m out"
      rename News _ _ _ _ => N9
      exact hretE _ rfl _ _ _ _ (kept0 kb (by assumption)) (newest kb N9).1 (newest kb N9).2
    · rw [if_neg (by assumption)] at hret
      k_extra "m out"
      rename News _ _ _ _ => N9
      exact hret _ rfl _ _ _ _ _ (kept0 kb (by assumption)) (newest kb N9).1 (newest kb N9).2
end
theorem setup_llocal : True := by
  k_with "m call" => ((with_reducible show wpAny _ _ (call (Value.ref 367) _ _) _ _ _); (try dsimp only); k_extra "m names"; k_dflt (refine' c_law_local G (Inside.below IN kF) (Room.less hR' (by k_extra "m om")) ?kT ?kx ?kij ?kj hwz hnc ?_ ?_); (case kT => k_extra "m toks"); (case kx => k_extra "m om"); (case kij => k_extra "m om"); (case kj => k_extra "m om"); rotate_left 1; (intro q hq a' t1' h' tk' kk' hn ho; dsimp only at kk' hn; have N' := News.add kF kN kk' hn ho; have F' := Fr.keepAll kF kk'; have ne' := News.ne kN hn; simp only [AllNe, and_true] at ne'; clear kF kN hn ho kk'; (try dsimp only)); rotate_right 1; (intro o9 ho9 a' t1' t2' h' tk' kk' hn ho; dsimp only at kk' hn; have N' := News.add kF kN kk' hn ho; have F' := Fr.keepAll kF kk'; have ne' := News.ne kN hn; simp only [AllNe, and_true] at ne'; clear kF kN hn ho kk'; (try dsimp only)))
  trivial

-- 40_ldomain
noncomputable def dotted (acc : List Str) : Str := acc.foldl (fun a x => a ++ x ++ Str.ofString ".") (Str.ofString "")
theorem dotted_snoc (acc : List Str) (x : Str) : dotted (acc ++ [x]) = dotted acc ++ x ++ Str.ofString "." := by simp [dotted]
theorem join_go (l : List Str) (x : Str) : ∀ (p : Array Nat), (l ++ [x]).foldl (fun acc q => acc ++ (Str.ofString ".").cps ++ q.cps) p = (l.foldl (fun a (y : Str) => a ++ (Str.ofString ".").cps ++ y.cps) p) ++ (Str.ofString ".").cps ++ x.cps := by
  intro p; simp
theorem dotted_go : ∀ (l : List Str) (a : Str), (l.foldl (fun a x => a ++ x ++ Str.ofString ".") (a ++ Str.ofString ".")).cps = l.foldl (fun acc (q : Str) => acc ++ (Str.ofString ".").cps ++ q.cps) a.cps ++ (Str.ofString ".").cps
  | [], a => rfl
  | y :: r, a => by
    rw [List.foldl_cons, List.foldl_cons, dotted_go r (a ++ Str.ofString "." ++ y)]
    rfl
theorem join_dotted (acc : List Str) (x : Str) : Txt.join (Str.ofString ".") (acc ++ [x]) = dotted acc ++ x := by
  cases acc with
  | nil =>
    unfold dotted
    exact (Str.empty_append x).symm
  | cons p r =>
    apply Str.ext'
    show (r ++ [x]).foldl (fun acc q => acc ++ (Str.ofString ".").cps ++ q.cps) p.cps = (dotted (p :: r)).cps ++ x.cps
    rw [join_go]
    unfold dotted
    rw [List.foldl_cons, show Str.ofString "" ++ p = p from Str.empty_append p, dotted_go]
theorem placeAt_nonneg {ts : List Tk} {k n : Nat} : 0 ≤ placeAt ts k n := by
  unfold placeAt
  cases ts[k]? with
  | none => dsimp only; omega
  | some t => dsimp only; omega
theorem placeAt_some {xs : List TkA} {k n : Nat} {x : TkA} (h : xs[k]? = some x) : placeAt (xs.map (·.tk)) k n = x.tk.place := by unfold placeAt; rw [get_some h]
theorem placeAt_none {xs : List TkA} {k n : Nat} (h : xs.length ≤ k) : placeAt (xs.map (·.tk)) k n = n := by unfold placeAt; rw [get_none h]
theorem kindAt_some {xs : List TkA} {k : Nat} {x : TkA} (h : xs[k]? = some x) : kindAt (xs.map (·.tk)) k = x.tk.kind.str := by unfold kindAt; rw [get_some h]
theorem kindAt_none {xs : List TkA} {k : Nat} (h : xs.length ≤ k) : kindAt (xs.map (·.tk)) k = Str.ofString "" := by unfold kindAt; rw [get_none h]
theorem sign_ne {ts : List Tk} {k : Nat} {sg : Array UInt8} {b : Bool} (h : sg.toList ≠ []) (e : ((signAt ts k).toList != sg.toList) = b) : standsAt ts k sg = !b := by rw [← sign_stands h, ← e]; simp [bne]
theorem sign_eq {ts : List Tk} {k : Nat} {sg : Array UInt8} {b : Bool} (h : sg.toList ≠ []) (e : ((signAt ts k).toList == sg.toList) = b) : standsAt ts k sg = b := by rw [← sign_stands h, ← e]
theorem atom_lit {ts : List Tk} {k : Nat} : (kindAt ts k != Str.ofString "atom") = !(kindAt ts k == Str.ofString "atom") := rfl
theorem setup_ld0 : True := by
  k_with "m stradd" => (k_dflt (refine SB.add ?_ (by simp only [sizeLine_eq, Str.length_append, textOf_len, dot_len, len_lb, len_rb]; k_extra "m om")); intro t8' k8'; (try dsimp only))
  trivial
section
variable {prog : Program} {w : World}
  {A : Around} {base : Heap} {fr : List Env} {s : Shared} {Q : Value → Shared → Prop} {E : Value → Shared → Prop}
theorem c_law_domain {l : Addr} {xs : List TkA} {k n : Nat} {u u' : Tok} (G : Gr w base) (B : Below A base fr s.heap) (hR : Room A 5) (T : TokL s.heap l xs) (hx : xs.length ≤ 999) (hk : k ≤ xs.length) (hwz : ∀ x ∈ xs, x.tk.worth.size ≤ 999 ∧ x.tk.place ≤ 999)
  (hret : ∀ o j, domainOf (xs.map (·.tk)) n k = .ok (o, j) → j ≤ xs.length → k < j → ∀ a t1 t2 t3 h' tk', Keep s.heap h' → s.heap.get? a = none → h'.get? a = some (tupO [.str o t1, .int (j : Int) t2, .int (-1) t3]) → Q (.ref a) { s with heap := h', toks := tk' })
  (hretE : ∀ q (z : Nat), domainOf (xs.map (·.tk)) n k = .error q → 0 ≤ q → ∀ a t2 t3 h' tk', Keep s.heap h' → s.heap.get? a = none → h'.get? a = some (tupO [.none, .int (z : Int) t2, .int q t3]) → Q (.ref a) { s with heap := h', toks := tk' }) :
  wpAny (model prog w) A (call (.ref 374) [.ref l, .int k u, .int n u']) Q E s := by
  k_extra "m enter"
  case kbinds => exact [("tokens", .ref l), ("at", .int k u), ("length", .int n u')]
  k_extra "m pure"
  have hT' := T.keep (fun b o e => kb b o (by simp) e)
  generalize hW : domainOf (xs.map (·.tk)) n k = W at hret hretE
  unfold domainOf at hW
  rw [len_tk] at hW
  have stopE : StopIfExp := ⟨rfl⟩
  have stopB : StopBool := ⟨rfl⟩
  k_steps
  refine Hold.go (cutAt (σ := Tok) (by assumption) (fun _ => []) (fun _ => [("length", .int n u'), ("at", .int k u), ("tokens", .ref l)]) (fun v c => v = .int (placeAt (xs.map (·.tk)) k n) c) ?_ ?_)
  · (rename StopIfExp => st0; clear st0)
    k_steps
    · exact Cut.intro _ (by assumption) (by assumption) (by rw [placeAt_some hx9]) (fun _ h => nomatch h) ⟨rfl, rfl, rfl, trivial⟩
    · exact Cut.intro _ (by assumption) (by assumption) (by rw [placeAt_none (by omega)]) (fun _ h => nomatch h) ⟨rfl, rfl, rfl, trivial⟩
  rintro _ tp u₂ h' tk' rfl F' N'
  dsimp only at F' N' ⊢
  k_steps
  refine Hold.go (cutAt (σ := Unit) (by assumption) (fun _ => []) (fun _ => [("place", .int (placeAt (xs.map (·.tk)) k n) tp), ("length", .int n u'), ("at", .int k u), ("tokens", .ref l)]) (fun v _ => v = (kindAt (xs.map (·.tk)) k == Str.ofString "literal")) ?_ ?_)
  · (rename StopBool => st0; clear st0)
    k_steps
    · exact Cut.intro () (by assumption) (by assumption) (by rw [kindAt_some hx9]; exact Eq.symm (by assumption)) (fun _ h => nomatch h) ⟨rfl, rfl, rfl, rfl, trivial⟩
    · exact Cut.intro () (by assumption) (by assumption) (by rw [kindAt_some hx9]; exact Eq.symm (by assumption)) (fun _ h => nomatch h) ⟨rfl, rfl, rfl, rfl, trivial⟩
    · exact Cut.intro () (by assumption) (by assumption) (by rw [kindAt_none (by omega)]; decide +kernel) (fun _ h => nomatch h) ⟨rfl, rfl, rfl, rfl, trivial⟩
  rintro v _ u₃ h' tk' hv F' N'
  rw [← hv] at hW
  dsimp only at F' N' ⊢
  cases v with
  | true =>
    have hkl : k < xs.length := kind_lt hv.symm (by decide +kernel)
    have hx9 := List.getElem?_eq_getElem hkl
    generalize xs[k] = x at hx9
    have hxw := hwz x (List.mem_of_getElem? hx9)
    rw [if_pos rfl, get_some hx9] at hW
    simp only [if_true]
    k_steps
    k_extra "m out"
    rename News _ _ _ _ => N9
    exact hret _ _ hW.symm (by omega) (by omega) _ _ _ _ _ _ (kept0 kb (by assumption)) (newest kb N9).1 (newest kb N9).2
  | false =>
    rw [if_neg (show ¬ (false = true) by decide)] at hW
    simp only [Bool.false_eq_true, if_false]
    k_steps
    refine Hold.go ?_
    refine while_own (σ := Nat × Nat × Tok × Str × Tok × List Str × Tok) (fun _ => []) (fun c => [("found", .str c.2.2.2.1 c.2.2.2.2.1), ("place", .int (placeAt (xs.map (·.tk)) c.2.1 n) c.2.2.2.2.2.2), ("length", .int n u'), ("at", .int (c.2.1 : Int) c.2.2.1), ("tokens", .ref l)])
      (fun c => domLoop (xs.map (·.tk)) n c.1 c.2.1 c.2.2.2.2.2.1 = W ∧ xs.length < c.2.1 + c.1 ∧ k ≤ c.2.1 ∧ c.2.1 ≤ xs.length ∧ c.2.2.2.1 = dotted c.2.2.2.2.2.1 ∧ c.2.2.2.1.length ≤ 1001 * c.2.1) (fun c => c.1) (xs.length + 1, k, u, Str.ofString "", _, [], tp) (by assumption) (by assumption) (fun _ h => nomatch h) ⟨hW, by dsimp only; omega, Nat.le_refl _, hk, rfl, Nat.le_trans (Nat.le_of_eq (by decide +kernel : (Str.ofString "").length = 0)) (Nat.zero_le _)⟩ ⟨rfl, rfl, rfl, rfl, rfl, trivial⟩ ?_ (Inside.pass IN)
    refine pr7 fun f j tj fo tf acc tp2 u₁ h tk2 => an6 fun hp1 hp2 hp3 hp4 hp5 hp6 F' N' => ?_
    (try dsimp only at hp1 hp2 hp3 hp4 hp5 hp6 F' N')
    obtain ⟨f', rfl⟩ : ∃ f', f = f' + 1 := by first | exact fuel (by assumption) (by assumption) | exact fuel2 (by assumption) (by assumption) | exact ⟨f - 1, by omega⟩
    rw [domLoop] at hp1
    (try dsimp only)
    k_steps
    refine Hold.go (cutAt (σ := Unit) (by assumption) (fun _ => []) (fun _ => [("found", .str fo tf), ("place", .int (placeAt (xs.map (·.tk)) j n) tp2), ("length", .int n u'), ("at", .int (j : Int) tj), ("tokens", .ref l)]) (fun v _ => v = (kindAt (xs.map (·.tk)) j == Str.ofString "atom")) ?_ ?_)
    · (rename StopBool => st0; clear st0)
      k_steps
      · exact Cut.intro () (by assumption) (by assumption) (by rw [kindAt_some hx9]; exact Eq.symm (by assumption)) (fun _ h => nomatch h) ⟨rfl, rfl, rfl, rfl, rfl, trivial⟩
      · exact Cut.intro () (by assumption) (by assumption) (by rw [kindAt_some hx9]; exact Eq.symm (by assumption)) (fun _ h => nomatch h) ⟨rfl, rfl, rfl, rfl, rfl, trivial⟩
      · exact Cut.intro () (by assumption) (by assumption) (by rw [kindAt_none (by omega)]; decide +kernel) (fun _ h => nomatch h) ⟨rfl, rfl, rfl, rfl, rfl, trivial⟩
    rintro v _ u₄ h' tk' hv F' N'
    rw [atom_lit, ← hv] at hp1
    (try dsimp only at F' N')
    cases v with
    | true =>
      have hjl : j < xs.length := kind_lt hv.symm (by decide +kernel)
      have hx9 := List.getElem?_eq_getElem hjl
      generalize xs[j] = x at hx9
      have hxw := hwz x (List.mem_of_getElem? hx9)
      rw [if_neg (by decide), get_some hx9] at hp1
      dsimp only at hp1
      simp only [if_true]
      k_steps
      refine Hold.go (cutAt (σ := Tok × Tok × Tok) (by assumption) (fun _ => []) (fun c => [("found", .str (fo ++ textOf x.tk.worth) c.2.1), ("length", .int n u'), ("at", .int ((j + 1 : Nat) : Int) c.2.2), ("tokens", .ref l)]) (fun v c => v = .int (placeAt (xs.map (·.tk)) (j + 1) n) c.1) ?_ ?_)
      · (rename StopIfExp => st0; clear st0)
        clear hx9
        k_steps
        · exact Cut.intro (_, _, _) (by assumption) (by assumption) (by rw [placeAt_some hx9]) (fun _ h => nomatch h) ⟨rfl, rfl, rfl, rfl, trivial⟩
        · exact Cut.intro (_, _, _) (by assumption) (by assumption) (by rw [placeAt_none (by omega)]) (fun _ h => nomatch h) ⟨rfl, rfl, rfl, rfl, trivial⟩
      rintro _ ⟨tp3, tf3, tj3⟩ u₅ h' tk' rfl F' N'
      (try dsimp only at F' N' ⊢)
      k_steps
      · rename (_ != #[46].toList) = true => h1
        rw [if_neg (by rw [sign_ne (by decide) h1]; decide), join_dotted, ← hp5] at hp1
        dsimp only [WPost]
        k_extra "m out"
        rename News _ _ _ _ => N9
        exact hret _ _ hp1.symm (by omega) (by omega) _ _ _ _ _ _ (kept0 kb (by assumption)) (newest kb N9).1 (newest kb N9).2
      · rename (_ != #[46].toList) = false => h1
        have hst := sign_ne (sg := #[46]) (by decide) h1
        have hjl2 := stands_lt hst
        rw [if_pos (by rw [hst]; decide)] at hp1
        refine Hold.go (cutAt (σ := Tok × Tok × Tok) (by assumption) (fun _ => []) (fun c => [("found", .str (fo ++ textOf x.tk.worth ++ Str.ofString ".") c.2.1), ("length", .int n u'), ("at", .int ((j + 2 : Nat) : Int) c.2.2), ("tokens", .ref l)]) (fun v c => v = .int (placeAt (xs.map (·.tk)) (j + 2) n) c.1) ?_ ?_)
        · (rename StopIfExp => st0; clear st0)
          clear hx9
          k_steps
          · exact Cut.intro (_, _, _) (by assumption) (by assumption) (by rw [placeAt_some hx9]) (fun _ h => nomatch h) ⟨rfl, rfl, rfl, rfl, trivial⟩
          · exact Cut.intro (_, _, _) (by assumption) (by assumption) (by rw [placeAt_none (by omega)]) (fun _ h => nomatch h) ⟨rfl, rfl, rfl, rfl, trivial⟩
        rintro _ ⟨tp4, tf4, tj4⟩ u₆ h' tk' rfl F' N'
        (try dsimp only at F' N' ⊢)
        k_steps
        k_extra "m turn"
        exact WEnd.intro (f', j + 2, _, fo ++ textOf x.tk.worth ++ Str.ofString ".", _, acc ++ [textOf x.tk.worth], _) (by assumption) (by assumption) (fun _ h => nomatch h) ⟨hp1, by dsimp only; omega, by dsimp only; omega, by dsimp only; omega, by dsimp only; rw [dotted_snoc, hp5], by dsimp only; simp only [Str.length_append, textOf_len, dot_len]; omega⟩ (Nat.lt_succ_self _) ⟨rfl, rfl, rfl, rfl, rfl, trivial⟩
    | false =>
      rw [if_pos (by decide)] at hp1
      simp only [Bool.false_eq_true, if_false]
      k_steps
      dsimp only
      k_extra "m out"
      rename News _ _ _ _ => N9
      exact hretE _ _ hp1.symm placeAt_nonneg _ _ _ _ _ (kept0 kb (by assumption)) (newest kb N9).1 (newest kb N9).2
theorem c_law_domainS {l : Addr} {xs : List TkA} {k n : Nat} {u u' : Tok} (G : Gr w base) (B : Below A base fr s.heap) (hR : Room A 5) (T : TokL s.heap l xs) (hx : xs.length ≤ 999) (hk : k + 1 ≤ xs.length) (hwz : ∀ x ∈ xs, x.tk.worth.size ≤ 999 ∧ x.tk.place ≤ 999)
  (hret : ∀ o j, domainOf (xs.map (·.tk)) n (k + 1) = .ok (o, j) → j ≤ xs.length → k + 1 < j → ∀ a t1 t2 t3 h' tk', Keep s.heap h' → s.heap.get? a = none → h'.get? a = some (tupO [.str o t1, .int (j : Int) t2, .int (-1) t3]) → Q (.ref a) { s with heap := h', toks := tk' })
  (hretE : ∀ q (z : Nat), domainOf (xs.map (·.tk)) n (k + 1) = .error q → 0 ≤ q → ∀ a t2 t3 h' tk', Keep s.heap h' → s.heap.get? a = none → h'.get? a = some (tupO [.none, .int (z : Int) t2, .int q t3]) → Q (.ref a) { s with heap := h', toks := tk' }) :
  wpAny (model prog w) A (call (.ref 374) [.ref l, .int ((k : Int) + 1) u, .int n u']) Q E s := c_law_domain (k := k + 1) G B hR T hx hk hwz hret hretE
end
theorem setup_ldomain : True := by
  k_with "m stradd" => (k_dflt (refine SB.add ?_ (by simp only [sizeLine_eq, Str.length_append, textOf_len, dot_len, len_lb, len_rb]; k_extra "m om")); intro t8' k8'; (try dsimp only))
  k_with "m call" => ((with_reducible show wpAny _ _ (call (Value.ref 374) _ _) _ _ _); (try dsimp only); k_extra "m names"; k_dflt (refine' c_law_domainS G (Inside.below IN kF) (Room.less hR' (by k_extra "m om")) ?kT ?kx ?kk hwz ?_ ?_); (case kT => k_extra "m toks"); (case kx => k_extra "m om"); (case kk => (first | k_extra "m om" | k_extra "m kk")); rotate_left 1; (intro q z9 hq hq0 a' t2' t3' h' tk' kk' hn ho; dsimp only at kk' hn; have N' := News.add kF kN kk' hn ho; have F' := Fr.keepAll kF kk'; have ne' := News.ne kN hn; simp only [AllNe, and_true] at ne'; clear kF kN hn ho kk'; (try dsimp only)); rotate_right 1; (intro o9 j9 ho9 hj9 hk9 a' t1' t2' t3' h' tk' kk' hn ho; dsimp only at kk' hn; have N' := News.add kF kN kk' hn ho; have F' := Fr.keepAll kF kk'; have ne' := News.ne kN hn; simp only [AllNe, and_true] at ne'; clear kF kN hn ho kk'; (try dsimp only)))
  trivial

-- 41_lspec
theorem notin_two {prog : Program} {w : World} {A : Around} {E : Value → Shared → Prop} {s : Shared} {t : Addr} {b1 b2 x : Array UInt8} {t1 t2 u : Tok} {Q : Value → Shared → Prop} (ht : IsTup s.heap t #[.bytes b1 t1, .bytes b2 t2])
    (h : Q (.bool (!((x.toList == b1.toList) || (x.toList == b2.toList)))) s) : wpAny (model prog w) A (compareOp .NotIn (.bytes x u) (.ref t)) Q E s := by
  refine PySem.SeqAt.notIn_tupleAt (fun y => match y with | .bytes b _ => (x.toList == b.toList) | _ => false) ht (fun y hy prog w E Q hq => ?_) ?_
  · have sw : ∀ b : Array UInt8, (x.toList == b.toList) = decide (b.toList = x.toList) := fun b => by
      rw [Bool.eq_iff_iff, beq_iff_eq, decide_eq_true_iff]; exact eq_comm
    rcases List.mem_cons.mp (Array.mem_toList_iff.mpr hy) with rfl | hy
    · exact eqBool_bytes (by dsimp only at hq; rw [sw] at hq; exact hq)
    · obtain rfl := List.mem_singleton.mp hy
      exact eqBool_bytes (by dsimp only at hq; rw [sw] at hq; exact hq)
  · simpa using h
theorem NewIn.two {g h h' : Heap} {L : Addr} {a b : Addr × Obj} {l : List (Addr × Obj)} (kb : KeepBut [] h g) (N : News g L h' (a :: b :: l)) : NewIn h h' [a, b] := NewIn.of kb N fun q hq => by
  rcases List.mem_cons.mp hq with rfl | hq
  · exact .head _
  · rw [List.mem_singleton.mp hq]; exact .tail _ (.head _)
theorem sign_two {ts : List Tk} {k : Nat} {b1 b2 : Array UInt8} {b : Bool} (h1 : b1.toList ≠ []) (h2 : b2.toList ≠ []) (e : ((signAt ts k).toList == b1.toList || (signAt ts k).toList == b2.toList) = b) : (standsAt ts k b1 || standsAt ts k b2) = b := by rw [← sign_stands h1, ← sign_stands h2, e]
theorem at_int2 {Q : Value → Shared → Prop} {a : Addr} {s : Shared} (h : Q (.ref a) s) : Q (.ref a) s := h
theorem kk_lt {xs : List TkA} {k : Nat} {sg : Array UInt8} (h : sg.toList ≠ []) (e : ((signAt (xs.map (·.tk)) k).toList == sg.toList) = true) : k + 1 ≤ xs.length := stands_lt (sign_eq h e)
theorem kk_lt2 {xs : List TkA} {k : Nat} {sg : Array UInt8} (h : sg.toList ≠ []) (e : ((signAt (xs.map (·.tk)) k).toList != sg.toList) = false) : k + 1 ≤ xs.length := stands_lt (sign_ne h e)
theorem setup_ls0 : True := by
  k_with "m notin" => (k_extra "m names"; k_dflt (refine notin_two (News.isTup kN (by k_mem)) ?_); (try dsimp only))
  k_with "m kk" => (first | exact kk_lt (sg := #[64]) (by decide) (by assumption) | exact kk_lt2 (sg := #[64]) (by decide) (by assumption))
  trivial
section
variable {prog : Program} {w : World}
  {A : Around} {base : Heap} {fr : List Env} {s : Shared} {Q : Value → Shared → Prop} {E : Value → Shared → Prop}
theorem c_law_spec {l : Addr} {xs : List TkA} {i k n : Nat} {nm : Str} {u u' u2 u3 : Tok} (G : Gr w base) (B : Below A base fr s.heap) (hR : Room A 7) (T : TokL s.heap l xs) (hx : xs.length ≤ 999) (hik : i ≤ k) (hk : k ≤ xs.length) (hwz : ∀ x ∈ xs, x.tk.worth.size ≤ 999 ∧ x.tk.place ≤ 999) (hnc : ∀ x ∈ xs, x.tk.kind ≠ .comment)
  (hret : ∀ loc dom j, mailboxRest (xs.map (·.tk)) n nm ((span xs i k).map (·.tk)) k false = .ok (nm, loc, dom, j) → j ≤ xs.length → k < j → ∀ a m t2 t3 v0 v1 v2 v3 h' tk', Keep s.heap h' → NewIn s.heap h' [(a, tupO [.ref m, .int (j : Int) t2, .int (-1) t3]), (m, mbT nm loc dom v0 v1 v2 v3)] → Q (.ref a) { s with heap := h', toks := tk' })
  (hretE : ∀ q (z : Nat), mailboxRest (xs.map (·.tk)) n nm ((span xs i k).map (·.tk)) k false = .error q → ∀ a t2 t3 h' tk', Keep s.heap h' → s.heap.get? a = none → h'.get? a = some (tupO [.none, .int (z : Int) t2, .int q t3]) → Q (.ref a) { s with heap := h', toks := tk' }) :
  wpAny (model prog w) A (call (.ref 381) [.ref l, .int i u, .int k u', .int n u2, .str nm u3]) Q E s := by
  k_extra "m enter"
  case kbinds => exact [("tokens", .ref l), ("first", .int i u), ("at", .int k u'), ("length", .int n u2), ("name", .str nm u3)]
  k_extra "m pure"
  have hT' := T.keep (fun b o e => kb b o (by simp) e)
  generalize hW : mailboxRest (xs.map (·.tk)) n nm ((span xs i k).map (·.tk)) k false = W at hret hretE
  unfold mailboxRest at hW
  have stopE : StopIfExp := ⟨rfl⟩
  k_steps
  refine Hold.go (cutAt (σ := Tok) (by assumption) (fun _ => []) (fun _ => [("name", .str nm u3), ("length", .int n u2), ("at", .int k u'), ("first", .int i u), ("tokens", .ref l)]) (fun v c => v = .int (placeAt (xs.map (·.tk)) k n) c) ?_ ?_)
  · (rename StopIfExp => st0; clear st0)
    k_steps
    · exact Cut.intro _ (by assumption) (by assumption) (by rw [placeAt_some hx9]) (fun _ h => nomatch h) ⟨rfl, rfl, rfl, rfl, rfl, trivial⟩
    · exact Cut.intro _ (by assumption) (by assumption) (by rw [placeAt_none (by omega)]) (fun _ h => nomatch h) ⟨rfl, rfl, rfl, rfl, rfl, trivial⟩
  rintro _ tp u₂ h' tk' rfl F' N'
  (try dsimp only at F' N' ⊢)
  (rename StopIfExp => st0; clear st0)
  k_steps
  all_goals (k_extra "m out"; rename News _ _ _ _ => N9)
  · rename (_ != #[64].toList) = true => h1
    rw [ho9] at hW
    dsimp only at hW
    rw [if_neg (by rw [sign_ne (sg := #[64]) (by decide) h1]; decide), placeAt_some hx9] at hW
    exact hretE _ k hW.symm _ _ _ _ _ (kept0 kb (by assumption)) (newest kb N9).1 (newest kb N9).2
  · rename (_ != #[64].toList) = true => h1
    rw [ho9] at hW
    dsimp only at hW
    rw [if_neg (by rw [sign_ne (sg := #[64]) (by decide) h1]; decide), placeAt_none (by omega)] at hW
    exact hretE _ k hW.symm _ _ _ _ _ (kept0 kb (by assumption)) (newest kb N9).1 (newest kb N9).2
  · rename (_ != #[64].toList) = false => h1
    rename localOf _ _ = _ => hlo
    rw [hlo] at hW
    dsimp only at hW
    rw [if_pos (by rw [sign_ne (sg := #[64]) (by decide) h1]; decide), ho9] at hW
    exact hret _ _ _ hW.symm hj9 (by omega) _ _ _ _ _ _ _ _ _ _ (kept0 kb (by assumption)) (NewIn.two kb N9)
  · rename (_ != #[64].toList) = false => h1
    rw [ho9] at hW
    dsimp only at hW
    rw [if_pos (by rw [sign_ne (sg := #[64]) (by decide) h1]; decide), hq] at hW
    exact hretE _ _ hW.symm _ _ _ _ _ (kept0 kb (by assumption)) (newest kb N9).1 (newest kb N9).2
  · rw [hq] at hW
    exact hretE _ k hW.symm _ _ _ _ _ (kept0 kb (by assumption)) (newest kb N9).1 (newest kb N9).2
theorem c_law_route {l : Addr} {xs : List TkA} {k n : Nat} {u u' : Tok} (G : Gr w base) (B : Below A base fr s.heap) (hR : Room A 7) (T : TokL s.heap l xs) (hx : xs.length ≤ 999) (hk : k ≤ xs.length) (hwz : ∀ x ∈ xs, x.tk.worth.size ≤ 999 ∧ x.tk.place ≤ 999)
  (hret : ∀ j, routeOf (xs.map (·.tk)) n k = .ok j → j ≤ xs.length → k ≤ j → ∀ a t1 t2 h' tk', Keep s.heap h' → s.heap.get? a = none → h'.get? a = some (tupO [.int (j : Int) t1, .int (-1) t2]) → Q (.ref a) { s with heap := h', toks := tk' })
  (hretE : ∀ q (z : Nat), routeOf (xs.map (·.tk)) n k = .error q → 0 ≤ q → ∀ a t1 t2 h' tk', Keep s.heap h' → s.heap.get? a = none → h'.get? a = some (tupO [.int (z : Int) t1, .int q t2]) → Q (.ref a) { s with heap := h', toks := tk' }) :
  wpAny (model prog w) A (call (.ref 388) [.ref l, .int k u, .int n u']) Q E s := by
  k_extra "m enter"
  case kbinds => exact [("tokens", .ref l), ("at", .int k u), ("length", .int n u')]
  k_extra "m pure"
  have hT' := T.keep (fun b o e => kb b o (by simp) e)
  generalize hW : routeOf (xs.map (·.tk)) n k = W at hret hretE
  unfold routeOf at hW
  rw [len_tk] at hW
  k_steps
  · rename (_ || _) = true => h1
    rw [if_neg (by rw [← Bool.not_or, sign_two (b1 := #[64]) (b2 := #[44]) (by decide) (by decide) h1]; decide)] at hW
    refine Hold.go ?_
    refine while_own (σ := Nat × Nat × Tok) (fun _ => []) (fun c => [("length", .int n u'), ("at", .int (c.2.1 : Int) c.2.2), ("tokens", .ref l)])
      (fun c => routeLoop (xs.map (·.tk)) n c.1 c.2.1 = W ∧ xs.length < c.2.1 + c.1 ∧ k ≤ c.2.1 ∧ c.2.1 ≤ xs.length) (fun c => c.1) (xs.length + 1, k, u) (by assumption) (by assumption) (fun _ h => nomatch h) ⟨hW, by dsimp only; omega, Nat.le_refl _, hk⟩ ⟨rfl, rfl, rfl, trivial⟩ ?_ (Inside.pass IN)
    refine pr3 fun f j tj u₁ h tk2 => an4 fun hp1 hp2 hp3 hp4 F' N' => ?_
    dsimp only at hp1 hp2 hp3 hp4 F' N'
    obtain ⟨f', rfl⟩ : ∃ f', f = f' + 1 := by first | exact fuel (by assumption) (by assumption) | exact fuel2 (by assumption) (by assumption) | exact ⟨f - 1, by omega⟩
    rw [routeLoop] at hp1
    (try dsimp only)
    k_steps
    rotate_right 1
    · rename (_ != #[58].toList) = false => h58
      rw [if_pos (by rw [sign_ne (sg := #[58]) (by decide) h58]; decide)] at hp1
      have hjl := stands_lt (sign_ne (sg := #[58]) (by decide) h58)
      k_extra "m out"
      rename News _ _ _ _ => N9
      exact hret _ hp1.symm hjl (by omega) _ _ _ _ _ (kept0 kb (by assumption)) (newest kb N9).1 (newest kb N9).2
    all_goals (rename (_ != #[58].toList) = true => h58; rw [if_neg (by rw [sign_ne (sg := #[58]) (by decide) h58]; decide)] at hp1)
    · rename (_ == #[44].toList) = true => h44
      have hst := sign_eq (sg := #[44]) (by decide) h44
      have hjl := stands_lt hst
      rw [if_pos hst] at hp1
      k_extra "m turn"
      exact WEnd.intro (f', j + 1, _) (by assumption) (by assumption) (fun _ h => nomatch h) ⟨hp1, by dsimp only; omega, by dsimp only; omega, by dsimp only; omega⟩ (Nat.lt_succ_self _) ⟨rfl, rfl, rfl, trivial⟩
    all_goals (rename (_ == #[44].toList) = false => h44; rw [if_neg (by rw [sign_eq (sg := #[44]) (by decide) h44]; decide)] at hp1)
    · rename (_ == #[64].toList) = true => h64
      rw [if_pos (sign_eq (sg := #[64]) (by decide) h64), ho9] at hp1
      k_extra "m turn"
      exact WEnd.intro (f', j9, _) (by assumption) (by assumption) (fun _ h => nomatch h) ⟨hp1, by dsimp only; omega, by dsimp only; omega, by dsimp only; omega⟩ (Nat.lt_succ_self _) ⟨rfl, rfl, rfl, trivial⟩
    all_goals (dsimp only [WPost]; k_extra "m out"; rename News _ _ _ _ => N9)
    · rename (_ == #[64].toList) = true => h64
      rw [if_pos (sign_eq (sg := #[64]) (by decide) h64), hq] at hp1
      exact hretE _ _ hp1.symm hq0 _ _ _ _ _ (kept0 kb (by assumption)) (newest kb N9).1 (newest kb N9).2
    all_goals (rename (_ == #[64].toList) = false => h64; rw [if_neg (by rw [sign_eq (sg := #[64]) (by decide) h64]; decide)] at hp1)
    · rw [placeAt_some hx9] at hp1
      exact hretE _ j hp1.symm (by omega) _ _ _ _ _ (kept0 kb (by assumption)) (newest kb N9).1 (newest kb N9).2
    · rw [placeAt_none (by omega)] at hp1
      exact hretE _ j hp1.symm (by omega) _ _ _ _ _ (kept0 kb (by assumption)) (newest kb N9).1 (newest kb N9).2
  · rename (_ || _) = false => h1
    rw [if_pos (by rw [← Bool.not_or, sign_two (b1 := #[64]) (b2 := #[44]) (by decide) (by decide) h1]; decide)] at hW
    k_extra "m out"
    rename News _ _ _ _ => N9
    exact hret _ hW.symm hk (Nat.le_refl _) _ _ _ _ _ (kept0 kb (by assumption)) (newest kb N9).1 (newest kb N9).2
theorem c_law_routeS {l : Addr} {xs : List TkA} {k n : Nat} {u u' : Tok} (G : Gr w base) (B : Below A base fr s.heap) (hR : Room A 7) (T : TokL s.heap l xs) (hx : xs.length ≤ 999) (hk : k + 1 ≤ xs.length) (hwz : ∀ x ∈ xs, x.tk.worth.size ≤ 999 ∧ x.tk.place ≤ 999)
  (hret : ∀ j, routeOf (xs.map (·.tk)) n (k + 1) = .ok j → j ≤ xs.length → k + 1 ≤ j → ∀ a t1 t2 h' tk', Keep s.heap h' → s.heap.get? a = none → h'.get? a = some (tupO [.int (j : Int) t1, .int (-1) t2]) → Q (.ref a) { s with heap := h', toks := tk' })
  (hretE : ∀ q (z : Nat), routeOf (xs.map (·.tk)) n (k + 1) = .error q → 0 ≤ q → ∀ a t1 t2 h' tk', Keep s.heap h' → s.heap.get? a = none → h'.get? a = some (tupO [.int (z : Int) t1, .int q t2]) → Q (.ref a) { s with heap := h', toks := tk' }) :
  wpAny (model prog w) A (call (.ref 388) [.ref l, .int ((k : Int) + 1) u, .int n u']) Q E s := c_law_route (k := k + 1) G B hR T hx hk hwz hret hretE
end
theorem setup_lspec : True := by
  k_with "m notin" => (k_extra "m names"; k_dflt (refine notin_two (News.isTup kN (by k_mem)) ?_); (try dsimp only))
  k_with "m kk" => (first | exact kk_lt (sg := #[64]) (by decide) (by assumption) | exact kk_lt2 (sg := #[64]) (by decide) (by assumption))
  k_with "m call" => ((with_reducible show wpAny _ _ (call (Value.ref 388) _ _) _ _ _); (try dsimp only); k_extra "m names"; k_dflt (refine' c_law_routeS G (Inside.below IN kF) (Room.less hR' (by k_extra "m om")) ?kT ?kx ?kk hwz ?_ ?_); (case kT => k_extra "m toks"); (case kx => k_extra "m om"); (case kk => (first | k_extra "m om" | k_extra "m kk")); rotate_left 1; (intro q z9 hq hq0 a' t1' t2' h' tk' kk' hn ho; dsimp only at kk' hn; have N' := News.add kF kN kk' hn ho; have F' := Fr.keepAll kF kk'; have ne' := News.ne kN hn; simp only [AllNe, and_true] at ne'; clear kF kN hn ho kk'; (try dsimp only)); rotate_right 1; (intro j9 ho9 hj9 hk9 a' t1' t2' h' tk' kk' hn ho; dsimp only at kk' hn; have N' := News.add kF kN kk' hn ho; have F' := Fr.keepAll kF kk'; have ne' := News.ne kN hn; simp only [AllNe, and_true] at ne'; clear kF kN hn ho kk'; (try dsimp only)))
  k_with "m call" => ((with_reducible show wpAny _ _ (call (Value.ref 381) _ _) _ _ _); (try dsimp only); k_extra "m names"; k_dflt (refine' c_law_spec G (Inside.below IN kF) (Room.less hR' (by k_extra "m om")) ?kT ?kx ?ki ?kk hwz hnc ?_ ?_); (case kT => k_extra "m toks"); (case kx => k_extra "m om"); (case ki => (first | k_extra "m om" | k_extra "m kb")); (case kk => (first | k_extra "m om" | k_extra "m kb")); rotate_left 1; (intro q z9 hq a' t2' t3' h' tk' kk' hn ho; dsimp only at kk' hn; have N' := News.add kF kN kk' hn ho; have F' := Fr.keepAll kF kk'; have ne' := News.ne kN hn; simp only [AllNe, and_true] at ne'; clear kF kN hn ho kk'; (try dsimp only)); rotate_right 1; (intro loc9 dom9 j9 ho9 hj9 hk9 a' m9 t2' t3' v0' v1' v2' v3' h' tk' kk' nw9; dsimp only at kk' nw9; have nea9 := News.ne kN (nw9 _ (.head _)).1; have neb9 := News.ne kN (nw9 _ (.tail _ (.head _))).1; simp only [AllNe, and_true] at nea9 neb9; have N' := News.plus kF kN kk' nw9; have F' := Fr.keepAll kF kk'; (try simp only [List.nil_append, List.cons_append] at N'); clear kF kN kk'; (try dsimp only)))
  trivial

-- 42_llist
/-- what _law_place must do, for is_inner = b -/
noncomputable def LPlaceC (prog : Program) (w : World) (N : Nat) (b : Bool) (P : List Tk → Nat → Nat → Except Int (Pl × Nat)) : Prop :=
  ∀ {A : Around} {base : Heap} {fr : List Env} {s : Shared} {Q : Value → Shared → Prop} {E : Value → Shared → Prop} {l : Addr} {xs : List TkA} {k n : Nat} {u u' : Tok}, Gr w base → Below A base fr s.heap → Room A N → TokL s.heap l xs → xs.length ≤ 999 → k ≤ xs.length → (∀ x ∈ xs, x.tk.worth.size ≤ 999 ∧ x.tk.place ≤ 999) → (∀ x ∈ xs, x.tk.kind ≠ .comment) →
    (∀ p j, P (xs.map (·.tk)) n k = .ok (p, j) → j ≤ xs.length → k < j → ∀ d a t2 t3 h' tk', DOk b d → d.pl = p → Keep s.heap h' → NewIn s.heap h' ((a, tupO [.ref d.addr, .int (j : Int) t2, .int (-1) t3]) :: d.led) → Q (.ref a) { s with heap := h', toks := tk' }) →
    (∀ q (z : Nat), P (xs.map (·.tk)) n k = .error q → ∀ a t2 t3 h' tk', Keep s.heap h' → s.heap.get? a = none → h'.get? a = some (tupO [.none, .int (z : Int) t2, .int q t3]) → Q (.ref a) { s with heap := h', toks := tk' }) →
    wpAny (model prog w) A (call (.ref 395) [.ref l, .int (k : Int) u, .int (n : Int) u', .bool b]) Q E s
theorem off_appD {D : List (Addr × Obj)} {acc : List DA} {l : Addr} (h : ∀ p ∈ ledD acc, p.1 ≠ l) (h2 : ∀ p ∈ D, p.1 ≠ l) : ∀ p ∈ ledD acc ++ D, p.1 ≠ l := fun p hp => (List.mem_append.mp hp).elim (h p) (h2 p)
theorem NewIn.tail {h h' : Heap} {a : Addr × Obj} {l : List (Addr × Obj)} (n : NewIn h h' (a :: l)) : NewIn h h' l := fun q hq => n q (.tail _ hq)
theorem News.plusL {g h h' : Heap} {L : Addr} {nx D : List (Addr × Obj)} {m : Str → Option Value} (F : Fr g L h m) (N : News g L h nx) (k : Keep h h') (n : NewIn h h' D) : News g L h' (D ++ nx) := fun q hq => by
  rcases List.mem_append.mp hq with hq | hq
  · exact News.add F N k (n q hq).1 (n q hq).2 q (.head _)
  · exact ⟨k _ _ (N q hq).1, (N q hq).2⟩
theorem comma_ok {d a b : Bool} (h : (a || b) = true) : ¬ (d && !a && !b) = true := by cases d <;> cases a <;> cases b <;> simp_all
theorem comma_no {a b : Bool} (h : (a || b) = false) : (true && !a && !b) = true := by cases a <;> cases b <;> simp_all
theorem not_semi {ts : List Tk} {k : Nat} {v : Bool} (h : v = (decide (k < ts.length) && ((signAt ts k).toList != #[59].toList))) : v = (decide (k < ts.length) && !standsAt ts k #[59]) := by
  rw [h, ← sign_stands (sg := #[59]) (by decide)]; rfl
section
local macro_rules | `(tactic| k_all) => `(tactic| assumption)
variable {prog : Program} {w : World}
  {A : Around} {base : Heap} {fr : List Env} {s : Shared} {Q : Value → Shared → Prop} {E : Value → Shared → Prop}
theorem setup_llist0 : True := by
  k_with "m size" => ((with_reducible refine refsD_size ?_); k_extra "m om")
  k_with "m call" => ((with_reducible show wpAny _ _ (call (Value.ref 395) _ _) _ _ _); (try dsimp only); k_extra "m names"; k_dflt (refine' hPl G (Inside.below IN kF) (Room.less hR' (by k_extra "m om")) ?kT ?kx ?kk hwz hnc ?_ ?_); (case kT => k_extra "m toks"); (case kx => k_extra "m om"); (case kk => k_extra "m om"); rotate_left 1; (intro q z9 hq a' t2' t3' h' tk' kk' hn ho; dsimp only at kk' hn; have N' := News.cons1 kF kN (News.keepAll kN kk') hn ho; have F' := Fr.keepAll kF kk'; clear kF kN hn ho kk'; (try dsimp only)); rotate_right 1; (intro p9 j9 ho9 hj9 hk9 d9 a9 t2' t3' h' tk' ok9 hp9 kk' nw9; dsimp only at kk' nw9; have nec9 := NewIn.off kN nw9 (by k_mem : (l', PySem.W.listOf _ _) ∈ _); have nea9 : @Ne Nat a9 l' := nec9 _ (.head _); have nwt9 := NewIn.tail nw9; have off9 := off_appD (by assumption) (fun p hp => nec9 p (.tail _ hp)); have N1 := News.plus kF kN kk' nwt9; have N' := News.cons1 kF kN N1 (nw9 _ (.head _)).1 (nw9 _ (.head _)).2; have F' := Fr.keepAll kF kk'; (try simp only [List.nil_append, List.cons_append] at N'); clear N1 kF kN kk'; (try dsimp only)))
  trivial
theorem c_law_list {b : Bool} {N : Nat} {P : List Tk → Nat → Nat → Except Int (Pl × Nat)} (hPl : LPlaceC prog w N b P) (hN : 8 ≤ N) {l : Addr} {xs : List TkA} {k n : Nat} {u u' : Tok} (G : Gr w base) (B : Below A base fr s.heap) (hR : Room A (N + 1)) (T : TokL s.heap l xs) (hx : xs.length ≤ 999) (hk : k ≤ xs.length) (hwz : ∀ x ∈ xs, x.tk.worth.size ≤ 999 ∧ x.tk.place ≤ 999) (hnc : ∀ x ∈ xs, x.tk.kind ≠ .comment)
  (hret : ∀ ps j, listOfPl (P (xs.map (·.tk)) n) (xs.map (·.tk)) n k = .ok (ps, j) → j ≤ xs.length → k ≤ j → ps.length ≤ j → ∀ a lo ds ep t2 t3 h' tk', (∀ d ∈ ds, DOk b d) → ds.map (·.pl) = ps → Keep s.heap h' → NewIn s.heap h' ((a, tupO [.ref lo, .int (j : Int) t2, .int (-1) t3]) :: (lo, listOf (refsD ds).toArray ep) :: ledD ds) → Q (.ref a) { s with heap := h', toks := tk' })
  (hretE : ∀ q (z : Nat), listOfPl (P (xs.map (·.tk)) n) (xs.map (·.tk)) n k = .error q → ∀ a t2 t3 h' tk', Keep s.heap h' → s.heap.get? a = none → h'.get? a = some (tupO [.none, .int (z : Int) t2, .int q t3]) → Q (.ref a) { s with heap := h', toks := tk' }) :
  wpAny (model prog w) A (call (.ref 402) [.ref l, .int k u, .int n u', .bool b]) Q E s := by
  k_extra "m enter"
  case kbinds => exact [("tokens", .ref l), ("at", .int k u), ("length", .int n u'), ("is_inner", .bool b)]
  k_extra "m pure"
  have hT' := T.keep (fun b o e => kb b o (by simp) e)
  generalize hW : listOfPl (P (xs.map (·.tk)) n) (xs.map (·.tk)) n k = W at hret hretE
  unfold listOfPl at hW
  rw [len_tk] at hW
  k_steps
  refine Hold.go ?_
  refine while_own (σ := Nat × Nat × Tok × List DA × Nat) (fun c => (l', PySem.W.listOf (refsD c.2.2.2.1).toArray c.2.2.2.2) :: ledD c.2.2.2.1) (fun c => [("found", .ref l'), ("is_inner", .bool b), ("length", .int n u'), ("at", .int (c.2.1 : Int) c.2.2.1), ("tokens", .ref l)])
    (fun c => listLoop (P (xs.map (·.tk)) n) (xs.map (·.tk)) n c.1 c.2.1 (c.2.2.2.1.map (·.pl)) = W ∧ xs.length < c.2.1 + c.1 ∧ k ≤ c.2.1 ∧ c.2.1 ≤ xs.length ∧ c.2.2.2.1.length ≤ c.2.1 ∧ (∀ e ∈ c.2.2.2.1, DOk b e) ∧ (∀ p ∈ ledD c.2.2.2.1, p.1 ≠ l')) (fun c => c.1) (xs.length + 1, k, u, [], 0) (by assumption) (by assumption) (fun p hp => hp) ⟨hW, by dsimp only; omega, Nat.le_refl _, hk, Nat.zero_le _, (fun _ h => nomatch h), (fun _ h => nomatch h)⟩ ⟨rfl, rfl, rfl, rfl, rfl, trivial⟩ ?_ (Inside.pass IN)
  refine pr5 fun f j tj acc ep u₁ h tk2 => an7 fun hp1 hp2 hp3 hp4 hp5 hp6 hp7 F' N' => ?_
  dsimp only at hp1 hp2 hp3 hp4 hp5 hp6 hp7 F' N'
  obtain ⟨f', rfl⟩ : ∃ f', f = f' + 1 := by first | exact fuel (by assumption) (by assumption) | exact fuel2 (by assumption) (by assumption) | exact ⟨f - 1, by omega⟩
  have stopB : StopBool := ⟨rfl⟩
  (try dsimp only)
  k_steps
  refine Hold.go (cutAt (σ := Unit) (by assumption) (fun _ => (l', PySem.W.listOf (refsD acc).toArray ep) :: ledD acc) (fun _ => [("found", .ref l'), ("is_inner", .bool b), ("length", .int n u'), ("at", .int (j : Int) tj), ("tokens", .ref l)]) (fun v _ => v = (decide (j < (xs.map (·.tk)).length) && ((signAt (xs.map (·.tk)) j).toList != #[59].toList))) ?_ ?_)
  · (rename StopBool => st0; clear st0)
    rw [len_tk]
    k_steps
    · exact Cut.intro () (by assumption) (by assumption) (by rename (_ != #[59].toList) = _ => h1; rw [decide_eq_true (by omega)]; exact h1.symm) (fun p hp => hp) ⟨rfl, rfl, rfl, rfl, rfl, trivial⟩
    · exact Cut.intro () (by assumption) (by assumption) (by rename (_ != #[59].toList) = _ => h1; rw [decide_eq_true (by omega)]; exact h1.symm) (fun p hp => hp) ⟨rfl, rfl, rfl, rfl, rfl, trivial⟩
    · exact Cut.intro () (by assumption) (by assumption) (by rw [decide_eq_false (by omega)]; rfl) (fun p hp => hp) ⟨rfl, rfl, rfl, rfl, rfl, trivial⟩
  · rintro v _ m₂ h' tk' hv F' N'
    have hv := not_semi hv
    (rename StopBool => st0; clear st0)
    cases v with
    | true =>
      simp only [if_true]
      rw [listLoop, ← hv, if_pos rfl] at hp1
      k_steps
      · rename (_ == #[44].toList) = true => h44
        have hst := sign_eq (sg := #[44]) (by decide) h44
        have hjl := stands_lt hst
        rw [if_pos hst] at hp1
        dsimp only
        k_extra "m turn"
        exact WEnd.intro (f', j + 1, _, acc, ep) (by assumption) (by assumption) (fun p hp => hp) ⟨hp1, by dsimp only; omega, by dsimp only; omega, by dsimp only; omega, by dsimp only; omega, hp6, hp7⟩ (Nat.lt_succ_self _) ⟨rfl, rfl, rfl, rfl, rfl, trivial⟩
      all_goals (rename (_ == #[44].toList) = false => h44; rw [if_neg (by rw [sign_eq (sg := #[44]) (by decide) h44]; decide)] at hp1)
      · rename (_ || _) = true => h45
        rw [ho9] at hp1
        dsimp only at hp1
        rw [if_neg (comma_ok (sign_two (b1 := #[44]) (b2 := #[59]) (by decide) (by decide) h45))] at hp1
        k_extra "m turn"
        rename News _ _ _ _ => N9
        rw [refsD_push, ← ledD_push] at N9
        exact WEnd.intro (f', j9, _, acc ++ [d9], ep + 1) (by assumption) N9 (fun p hp => .tail _ (.tail _ hp)) ⟨by rw [List.map_append, List.map_cons, List.map_nil, hp9]; exact hp1, by dsimp only; omega, by dsimp only; omega, by dsimp only; omega, by rw [List.length_append]; dsimp only [List.length]; omega, all_appD hp6 ok9, by dsimp only; rw [ledD_push]; exact off9⟩ (Nat.lt_succ_self _) ⟨rfl, rfl, rfl, rfl, rfl, trivial⟩
      · rename (_ || _) = false => h45
        rw [ho9] at hp1
        dsimp only at hp1
        rw [len_tk, decide_eq_true (by omega), if_pos (comma_no (sign_two (b1 := #[44]) (b2 := #[59]) (by decide) (by decide) h45)), placeAt_some hx9] at hp1
        dsimp only [WPost]
        k_extra "m out"
        rename News _ _ _ _ => N9
        exact hretE _ _ hp1.symm _ _ _ _ _ (kept0 kb (by assumption)) (newest kb N9).1 (newest kb N9).2
      · rw [ho9] at hp1
        dsimp only at hp1
        rw [len_tk, decide_eq_false (by omega), if_neg (by simp)] at hp1
        k_extra "m turn"
        rename News _ _ _ _ => N9
        rw [refsD_push, ← ledD_push] at N9
        exact WEnd.intro (f', j9, _, acc ++ [d9], ep + 1) (by assumption) N9 (fun p hp => .tail _ hp) ⟨by rw [List.map_append, List.map_cons, List.map_nil, hp9]; exact hp1, by dsimp only; omega, by dsimp only; omega, by dsimp only; omega, by rw [List.length_append]; dsimp only [List.length]; omega, all_appD hp6 ok9, by dsimp only; rw [ledD_push]; exact off9⟩ (Nat.lt_succ_self _) ⟨rfl, rfl, rfl, rfl, rfl, trivial⟩
      · rw [hq] at hp1
        dsimp only [WPost]
        k_extra "m out"
        rename News _ _ _ _ => N9
        exact hretE _ _ hp1.symm _ _ _ _ _ (kept0 kb (by assumption)) (newest kb N9).1 (newest kb N9).2
    | false =>
      simp only [Bool.false_eq_true, if_false]
      k_steps
      dsimp only
      rw [listLoop_done hv.symm] at hp1
      k_extra "m out"
      rename News _ _ _ _ => N9
      exact hret _ _ hp1.symm hp4 hp3 (by rw [List.length_map]; exact hp5) _ l' acc ep _ _ _ _ hp6 rfl (kept0 kb (by assumption)) (NewIn.of kb N9 fun q hq => hq)
theorem c_law_listS {b : Bool} {N : Nat} {P : List Tk → Nat → Nat → Except Int (Pl × Nat)} (hPl : LPlaceC prog w N b P) (hN : 8 ≤ N) {l : Addr} {xs : List TkA} {k n : Nat} {u u' : Tok} (G : Gr w base) (B : Below A base fr s.heap) (hR : Room A (N + 1)) (T : TokL s.heap l xs) (hx : xs.length ≤ 999) (hk : k + 1 ≤ xs.length) (hwz : ∀ x ∈ xs, x.tk.worth.size ≤ 999 ∧ x.tk.place ≤ 999) (hnc : ∀ x ∈ xs, x.tk.kind ≠ .comment)
  (hret : ∀ ps j, listOfPl (P (xs.map (·.tk)) n) (xs.map (·.tk)) n (k + 1) = .ok (ps, j) → j ≤ xs.length → k + 1 ≤ j → ps.length ≤ j → ∀ a lo ds ep t2 t3 h' tk', (∀ d ∈ ds, DOk b d) → ds.map (·.pl) = ps → Keep s.heap h' → NewIn s.heap h' ((a, tupO [.ref lo, .int (j : Int) t2, .int (-1) t3]) :: (lo, listOf (refsD ds).toArray ep) :: ledD ds) → Q (.ref a) { s with heap := h', toks := tk' })
  (hretE : ∀ q (z : Nat), listOfPl (P (xs.map (·.tk)) n) (xs.map (·.tk)) n (k + 1) = .error q → ∀ a t2 t3 h' tk', Keep s.heap h' → s.heap.get? a = none → h'.get? a = some (tupO [.none, .int (z : Int) t2, .int q t3]) → Q (.ref a) { s with heap := h', toks := tk' }) :
  wpAny (model prog w) A (call (.ref 402) [.ref l, .int ((k : Int) + 1) u, .int n u', .bool b]) Q E s := c_law_list (k := k + 1) hPl hN G B hR T hx hk hwz hnc hret hretE
end
theorem setup_llist : True := by
  k_with "m call" => ((with_reducible show wpAny _ _ (call (Value.ref 402) _ _) _ _ _); (try dsimp only); k_extra "m names"; k_dflt (refine' c_law_listS hPl hN10 G (Inside.below IN kF) (Room.less hR' (by k_extra "m om")) ?kT ?kx ?kk hwz hnc ?_ ?_); (case kT => k_extra "m toks"); (case kx => k_extra "m om"); (case kk => (first | k_extra "m om" | k_extra "m kk")); rotate_left 1; (intro q z9 hq a' t2' t3' h' tk' kk' hn ho; dsimp only at kk' hn; have N' := News.cons1 kF kN (News.keepAll kN kk') hn ho; have F' := Fr.keepAll kF kk'; clear kF kN hn ho kk'; (try dsimp only)); rotate_right 1; (intro p9 j9 ho9 hj9 hk9 hpl9 a9 lo9 ds9 ep9 t2' t3' h' tk' ok9 hp9 kk' nw9; dsimp only at kk' nw9; have N' := News.plusL kF kN kk' nw9; have F' := Fr.keepAll kF kk'; (try simp only [List.nil_append, List.cons_append] at N'); clear kF kN kk'; (try dsimp only)))
  trivial


-- 43_lplace
theorem rest_angle {ts : List Tk} {n k : Nat} {nm : Str} {ws : List Tk} : mailboxRest ts n nm ws k true = (match mailboxRest ts n nm ws k false with
    | .error q => .error q
    | .ok (a, b, c, j) => if standsAt ts j #[62] = true then .ok (a, b, c, j + 1) else .error (placeAt ts j n)) := by
  unfold mailboxRest
  cases localOf ws (placeAt ts k n) with
  | error q => rfl
  | ok loc =>
    dsimp only
    split
    · cases domainOf ts n (k + 1) with
      | error q => rfl
      | ok o => obtain ⟨d, j⟩ := o; simp
    · rfl
theorem filter_nc {xs : List TkA} {i j : Nat} (hnc : ∀ x ∈ xs, x.tk.kind ≠ .comment) : ((span xs i j).map (·.tk)).filter (fun t => t.kind != .comment) = (span xs i j).map (·.tk) := by
  rw [List.filter_eq_self]
  intro t ht
  obtain ⟨x, hx, rfl⟩ := List.mem_map.mp ht
  simpa [bne] using hnc x (span_mem hx)
theorem wordEnd_on {ts : List Tk} : ∀ {f k i : Nat}, k ≤ i → i < wordEnd ts f k → wordOn ts i = true
  | 0, k, i, h1, h2 => by rw [wordEnd] at h2; omega
  | f + 1, k, i, h1, h2 => by
    rw [wordEnd] at h2
    split at h2
    · split at h2
      · rcases Nat.eq_or_lt_of_le h1 with rfl | h
        · assumption
        · exact wordEnd_on (f := f) (k := k + 1) h h2
      · omega
    · omega
theorem worded_all {xs : List TkA} {i : Nat} (hnc : ∀ x ∈ xs, x.tk.kind ≠ .comment) : ∀ x ∈ span xs i (wordsTo (xs.map (·.tk)) i), worded x.tk := by
  intro x hx
  refine ⟨hnc x (span_mem hx), fun hs => ?_⟩
  unfold span at hx
  obtain ⟨o, ho⟩ := List.mem_iff_getElem?.mp hx
  obtain ⟨hlt, _⟩ := List.getElem?_eq_some_iff.mp ho
  rw [List.length_take] at hlt
  rw [List.getElem?_take_of_lt (by omega), List.getElem?_drop] at ho
  have hw := wordEnd_on (ts := xs.map (·.tk)) (f := (xs.map (·.tk)).length + 1) (k := i) (i := i + o) (by omega) (by unfold wordsTo at hlt; omega)
  rw [wordOn_of ho] at hw
  have : (x.tk.kind.str != Str.ofString "sign") = false := by simp [bne, hs]
  rw [this, hs] at hw
  simpa using hw
theorem kk_or {xs : List TkA} {k : Nat} {b1 b2 : Array UInt8} (h1 : b1.toList ≠ []) (h2 : b2.toList ≠ []) (e : ((signAt (xs.map (·.tk)) k).toList == b1.toList || (signAt (xs.map (·.tk)) k).toList == b2.toList) = true) : k + 1 ≤ xs.length := by
  have := sign_two h1 h2 e
  rcases (Bool.or_eq_true _ _).mp this with h | h
  · exact stands_lt h
  · exact stands_lt h
theorem wordsTo_bounds {xs : List TkA} {k : Nat} (hk : k ≤ xs.length) : k ≤ wordsTo (xs.map (·.tk)) k ∧ wordsTo (xs.map (·.tk)) k ≤ xs.length := by
  have h := wordEnd_le (ts := xs.map (·.tk)) (f := (xs.map (·.tk)).length + 1) (k := k) (Nat.le_trans hk (Nat.le_of_eq len_tk.symm))
  exact ⟨h.1, Nat.le_trans h.2 (Nat.le_of_eq len_tk)⟩
theorem newIn_at {g h h' : Heap} {L a : Addr} {o : Obj} {nx : List (Addr × Obj)} (kb : KeepBut [] h g) (N : News g L h' nx) (hm : (a, o) ∈ nx) : h.get? a = none ∧ h'.get? a = some o := ⟨fresh0 kb N hm (by simp), (N _ hm).1⟩
theorem newIn_pick {g h h' : Heap} {L a m : Addr} {o om : Obj} {nx : List (Addr × Obj)} (kb : KeepBut [] h g) (N : News g L h' nx) (h1 : (a, o) ∈ nx) (h2 : (m, om) ∈ nx) : NewIn h h' [(a, o), (m, om)] := fun q hq => by
  rcases List.mem_cons.mp hq with rfl | hq
  · exact newIn_at kb N h1
  · rw [List.mem_singleton.mp hq]; exact newIn_at kb N h2
theorem or_no {a b : Bool} (h : (a || b) = false) : a = false := by cases a <;> simp_all
theorem or_left {a b : Bool} (h : (a || b) = true) (hb : b = false) : a = true := by subst hb; simpa using h
noncomputable def mainP (b : Bool) (ts : List Tk) (n k : Nat) : Except Int (Pl × Nat) :=
  if standsAt ts (wordsTo ts k) #[58] = true then
    (if b = true ∨ wordsTo ts k - k = 0 then .error (placeAt ts (wordsTo ts k) n)
    else match phraseOf (((ts.drop k).take (wordsTo ts k - k)).filter (fun t => t.kind != .comment)) with
      | .error q => .error q
      | .ok o => match listOfPl (innerP ts n) ts n (wordsTo ts k + 1) with
        | .error q => .error q
        | .ok (ps, j) => if standsAt ts j #[59] = true then .ok (.gp (textOf o) (ps.map plTr), j + 1) else .error (placeAt ts j n))
  else match mailboxOf ts n ((ts.drop k).take (wordsTo ts k - k)) (wordsTo ts k) with
    | .error q => .error q
    | .ok (a, b, c, j) => .ok (.mb a b c, j)
theorem mainP_false : mainP false = outerP := by
  funext ts n k
  unfold mainP outerP
  simp only [Bool.false_eq_true, false_or]
  all_goals rfl
theorem mainP_true : mainP true = innerP := by
  funext ts n k
  unfold mainP innerP innerPlace
  simp only [true_or, if_true]
  split <;> rfl
theorem notin_known {prog : Program} {w : World} {A : Around} {E : Value → Shared → Prop} {s : Shared} {t : Addr} {b1 b2 x : Array UInt8} {t1 t2 u : Tok} {Q : Value → Shared → Prop} (ht : IsTup s.heap t #[.bytes b1 t1, .bytes b2 t2])
    (hk : (x.toList == b2.toList) = true) (h : Q (.bool false) s) : wpAny (model prog w) A (compareOp .NotIn (.bytes x u) (.ref t)) Q E s := notin_two ht (by rw [hk]; simpa using h)
theorem inner_plD : ∀ {ds : List DA}, (∀ d ∈ ds, DOk true d) → ds.map (·.pl) = ((ds.map (·.pl)).map plTr).map (fun x => Pl.mb x.1 x.2.1 x.2.2)
  | [], _ => rfl
  | e :: r, h => by
    have h1 := h e (.head _)
    have h2 := inner_plD (ds := r) fun x hx => h x (.tail _ hx)
    rw [List.map_cons, List.map_cons, List.map_cons, ← h2]
    cases h1
    rfl
theorem newIn_gp {g h h' : Heap} {L : Addr} {a b c x y : Addr × Obj} {D l : List (Addr × Obj)} (kb : KeepBut [] h g) (N : News g L h' (a :: b :: c :: x :: y :: (D ++ l))) : NewIn h h' (a :: b :: c :: D) := NewIn.of kb N fun q hq => by
  rcases List.mem_cons.mp hq with rfl | hq
  · exact .head _
  · rcases List.mem_cons.mp hq with rfl | hq
    · exact .tail _ (.head _)
    · rcases List.mem_cons.mp hq with rfl | hq
      · exact .tail _ (.tail _ (.head _))
      · exact .tail _ (.tail _ (.tail _ (.tail _ (.tail _ (List.mem_append_left _ hq)))))
section
local macro_rules | `(tactic| k_all) => `(tactic| assumption)
variable {prog : Program} {w : World}
theorem setup_lplace0 : True := by
  k_with "m kb" => (first | exact (wordsTo_bounds (by assumption)).1 | exact (wordsTo_bounds (by assumption)).2)
  k_with "m notin" => (k_extra "m names"; k_dflt (refine notin_known (News.isTup kN (by k_mem)) (by assumption) ?_); (try dsimp only))
  k_with "m worded" => (exact worded_all hnc)
  k_with "m kk" => (first | exact kk_lt (sg := #[58]) (by decide) (by assumption) | exact kk_or (b1 := #[60]) (b2 := #[58]) (by decide) (by decide) (by assumption))
  k_with "m toks" => (exact TokL.keep (by assumption) (Fr.keep kF))
  trivial
theorem l_place (b : Bool) (M : Nat) (hM : 9 ≤ M) (hM2 : b = false → 12 ≤ M) (hPl0 : b = false → LPlaceC prog w 10 true innerP) : LPlaceC prog w (M + 1) b (mainP b) := by
  intro A base fr s Q E l xs k n u u' G B hR T hx hk hwz hnc hret hretE
  have hN10 : 8 ≤ 10 := by decide
  k_extra "m enter"
  case kbinds => exact [("tokens", .ref l), ("first", .int (k : Int) u), ("length", .int (n : Int) u'), ("is_inner", .bool b)]
  k_extra "m pure"
  have hT' := T.keep (fun b o e => kb b o (by simp) e)
  have hwl2 : wordsTo (xs.map (·.tk)) k ≤ xs.length := (wordsTo_bounds hk).2
  have hwg : k ≤ wordsTo (xs.map (·.tk)) k := (wordsTo_bounds hk).1
  generalize hW : mainP b (xs.map (·.tk)) n k = W at hret hretE
  unfold mainP mailboxOf at hW
  rw [← span_map, filter_nc hnc] at hW
  have stopE : StopIfExp := ⟨rfl⟩
  k_steps
  refine Hold.go (cutAt (σ := Tok × Tok) (by assumption) (fun _ => []) (fun c => [("at", .int (wordsTo (xs.map (·.tk)) k : Nat) c.2), ("is_inner", .bool b), ("length", .int (n : Int) u'), ("first", .int (k : Int) u), ("tokens", .ref l)]) (fun v c => v = .int (placeAt (xs.map (·.tk)) (wordsTo (xs.map (·.tk)) k) n) c.1) ?_ ?_)
  · (rename StopIfExp => st0; clear st0)
    k_steps
    · exact Cut.intro (_, _) (by assumption) (by assumption) (by rw [placeAt_some hx9]) (fun _ h => nomatch h) ⟨rfl, rfl, rfl, rfl, rfl, trivial⟩
    · exact Cut.intro (_, _) (by assumption) (by assumption) (by rw [placeAt_none (by omega)]) (fun _ h => nomatch h) ⟨rfl, rfl, rfl, rfl, rfl, trivial⟩
  rintro _ ⟨tp, ta⟩ u₂ h' tk' rfl F' N'
  (try dsimp only at F' N' ⊢)
  (rename StopIfExp => st0; clear st0)
  have stopI : StopIf := ⟨rfl⟩
  k_steps
  refine Hold.go ?_
  (rename StopIf => st0; clear st0)
  by_cases s58 : standsAt (xs.map (·.tk)) (wordsTo (xs.map (·.tk)) k) #[58] = true
  · have h58 : ((signAt (xs.map (·.tk)) (wordsTo (xs.map (·.tk)) k)).toList == #[58].toList) = true := by rw [sign_stands (by decide)]; exact s58
    rw [if_pos s58] at hW
    cases b with
    | true =>
      rw [if_pos (.inl rfl)] at hW
      k_steps
      k_extra "m out"
      rename News _ _ _ _ => N9
      exact hretE _ _ hW.symm _ _ _ _ _ (kept0 kb (by assumption)) (newest kb N9).1 (newest kb N9).2
    | false =>
      have hPl : LPlaceC prog w 10 true innerP := by exact hPl0 rfl
      have hM12 := hM2 rfl
      clear hPl0 hM2
      k_steps
      · rw [if_pos (.inr (by omega))] at hW
        k_extra "m out"
        rename News _ _ _ _ => N9
        exact hretE _ _ hW.symm _ _ _ _ _ (kept0 kb (by assumption)) (newest kb N9).1 (newest kb N9).2
      all_goals rw [if_neg (by rintro (h | h); cases h; omega)] at hW
      rotate_right 1
      · rw [hq] at hW
        k_extra "m out"
        rename News _ _ _ _ => N9
        exact hretE _ _ hW.symm _ _ _ _ _ (kept0 kb (by assumption)) (newest kb N9).1 (newest kb N9).2
      all_goals (rw [hsp] at hW; dsimp only at hW)
      rotate_right 1
      · rw [hq] at hW
        k_extra "m out"
        rename News _ _ _ _ => N9
        exact hretE _ _ hW.symm _ _ _ _ _ (kept0 kb (by assumption)) (newest kb N9).1 (newest kb N9).2
      all_goals (rw [ho9] at hW; dsimp only at hW; rename (_ != #[59].toList) = _ => h59; have s59 := sign_ne (sg := #[59]) (by decide) h59)
      · rw [if_neg (by rw [s59]; decide), placeAt_some hx9] at hW
        k_extra "m out"
        rename News _ _ _ _ => N9
        exact hretE _ _ hW.symm _ _ _ _ _ (kept0 kb (by assumption)) (newest kb N9).1 (newest kb N9).2
      · rw [if_neg (by rw [s59]; decide), placeAt_none (by omega)] at hW
        k_extra "m out"
        rename News _ _ _ _ => N9
        exact hretE _ _ hW.symm _ _ _ _ _ (kept0 kb (by assumption)) (newest kb N9).1 (newest kb N9).2
      · rw [if_pos (by rw [s59]; decide)] at hW
        have hjl := stands_lt s59
        have hdl : ds9.length ≤ 999 := by rw [← List.length_map (f := (·.pl)), hp9]; omega
        k_extra "m names"
        refine kde_tupleOf (zs := refsD ds9) (items := (refsD ds9).toArray) kF kN (News.isList kN (.tail _ (.head _))) (by simp [refsD]; omega) (by simp) ?_
        intro t9 h' F' N' l1
        clear kF kN l1
        k_steps
        k_extra "m out"
        rename News _ _ _ _ => N9
        exact hret _ _ hW.symm hjl (by omega) ⟨_, .gp (textOf o9) (p9.map plTr), _⟩ _ _ _ _ _ (.gp _ t9 (textOf o9) _ _ ds9 (p9.map plTr) ok9 (by rw [← hp9]; exact inner_plD ok9)) rfl (kept0 kb (by assumption)) (newIn_gp kb N9)
  · have h58 : ((signAt (xs.map (·.tk)) (wordsTo (xs.map (·.tk)) k)).toList == #[58].toList) = false := by rw [sign_stands (by decide)]; simpa using s58
    rw [if_neg s58] at hW
    clear hPl0 hM2
    have s58 : standsAt (xs.map (·.tk)) (wordsTo (xs.map (·.tk)) k) #[58] = false := by simpa using s58
    k_steps
    all_goals (k_extra "m out"; rename News _ _ _ _ => N9)
    all_goals first
      | (rename (_ || _) = true => hor; have s60 := or_left (sign_two (b1 := #[60]) (b2 := #[58]) (by decide) (by decide) hor) s58; rw [if_pos s60] at hW; rename phraseOf _ = _ => hph; rw [hph] at hW; dsimp only at hW)
      | (rename (_ || _) = false => hor; have s60 := or_no (sign_two (b1 := #[60]) (b2 := #[58]) (by decide) (by decide) hor); rw [if_neg (no_true s60)] at hW; rename mailboxRest _ _ _ _ _ _ = _ => hmb; rw [show (Str.ofString "") = (Str.ofString "") from rfl, hmb] at hW; dsimp only at hW)
    rotate_right 2
    · exact hret _ _ hW.symm hj9 (by omega) ⟨m9, .mb _ loc9 dom9, [(m9, _)]⟩ _ _ _ _ _ (.mb ..) rfl (kept0 kb (by assumption)) (newIn_pick kb N9 (by k_mem) (by k_mem))
    · exact hretE _ _ hW.symm _ _ _ _ _ (kept0 kb (by assumption)) (newIn_at kb N9 (by k_mem)).1 (newIn_at kb N9 (by k_mem)).2
    rotate_right 1
    · exact hretE _ _ hW.symm _ _ _ _ _ (kept0 kb (by assumption)) (newest kb N9).1 (newest kb N9).2
    all_goals (rename routeOf _ _ _ = _ => hro; rw [hro] at hW; dsimp only at hW)
    rotate_right 1
    · exact hretE _ _ hW.symm _ _ _ _ _ (kept0 kb (by assumption)) (newest kb N9).1 (newest kb N9).2
    all_goals (rw [rest_angle, ← span_map] at hW; rename mailboxRest _ _ _ _ _ _ = _ => hmb; rw [hmb] at hW; dsimp only at hW)
    rotate_right 1
    · exact hretE _ _ hW.symm _ _ _ _ _ (kept0 kb (by assumption)) (newest kb N9).1 (newest kb N9).2
    all_goals (rename (_ != #[62].toList) = _ => h62; have s62 := sign_ne (sg := #[62]) (by decide) h62)
    · rw [if_neg (by rw [s62]; decide), placeAt_some hx9] at hW
      exact hretE _ _ hW.symm _ _ _ _ _ (kept0 kb (by assumption)) (newest kb N9).1 (newest kb N9).2
    · rw [if_neg (by rw [s62]; decide), placeAt_none (by omega)] at hW
      exact hretE _ _ hW.symm _ _ _ _ _ (kept0 kb (by assumption)) (newest kb N9).1 (newest kb N9).2
    · rw [if_pos (by rw [s62]; decide)] at hW
      have hjl := stands_lt s62
      have hwg2 := wordsTo_of (ts := xs.map (·.tk)) hro (by rw [len_tk]; assumption)
      exact hret _ _ hW.symm hjl (by omega) ⟨m9, .mb _ loc9 dom9, [(m9, _)]⟩ _ _ _ _ _ (.mb ..) rfl (kept0 kb (by assumption)) (newIn_pick kb N9 (by k_mem) (by k_mem))
theorem l_place_inner : LPlaceC prog w 10 true innerP := by
  rw [← mainP_true]
  intro A base fr s Q E l xs k n u u'
  exact l_place (prog := prog) (w := w) true 9 (by decide) (fun h => nomatch h) (fun h => nomatch h)
theorem l_place_outer : LPlaceC prog w 13 false outerP := by
  rw [← mainP_false]
  intro A base fr s Q E l xs k n u u'
  exact l_place (prog := prog) (w := w) false 12 (by decide) (fun _ => by decide) (fun _ => @l_place_inner prog w)
end


-- 44_ldraw
noncomputable def ivals (zs : List (Int × Tok)) : List Value := zs.map fun x => .int x.1 x.2
structure PT where
  t1 : Tok
  t2 : Tok
  t3 : Tok
noncomputable abbrev poolO (c : Addr) (g st : Int) (k : Nat) (T : PT) (ep : Nat) : Obj := listOf #[.ref c, .int g T.t1, .int st T.t2, .int (k : Int) T.t3] ep
/-- what stays of a pool, whatever the heap -/
structure PlC (base : Heap) (fr : List Env) (p : Addr) : Prop where
  b1 : base.get? p = none
  off : OffFrames fr [p]
theorem item_cell {prog : Program} {w : World} {A : Around} {E : Value → Shared → Prop} {s : Shared} {value slice : PySem.Expr} {l : Addr} {zs : List (Int × Tok)} {k : Nat} {u : Tok} {Q : Value → Shared → Prop} (T : s.heap.IsList l (ivals zs).toArray) (hk : k < zs.length) (hx : zs.length ≤ 1000)
    (h : ∀ z t, Q (.int z t) s)
    (hs : subscripted slice false (.ref l) (.int (k : Int) u) = operate [.ref l, .int (k : Int) u] (getItem (.ref l) (.int (k : Int) u)) := by with_unfolding_all rfl) (hg : ∀ r, letTemporaryGo value (.ref l) r = pure () := by intro _; with_unfolding_all rfl) :
    wpAny (model prog w) A (subscriptTail value slice (.ref l) (.int (k : Int) u)) Q E s := by
  refine item_listL T (by omega) (by omega) (x := .int zs[k].1 zs[k].2) ?_ (h _ _) hs hg
  simp [ivals, hk]
theorem len_ivals {prog : Program} {w : World} {A : Around} {E : Value → Shared → Prop} {s : Shared} {l : Addr} {xs : List (Int × Tok)} {Q : Value → Shared → Prop} (hl : s.heap.IsList l (ivals xs).toArray) (h : xs.length ≤ 100000)
    (hQ : ∀ t tk, Q (.int (xs.length : Int) t) { s with toks := tk }) : wpAny (model prog w) A (call (.builtin "len") [.ref l]) Q E s := by
  have e : (ivals xs).toArray.size = xs.length := by simp [ivals]
  refine len_list hl (by rw [e]; omega) ?_
  rw [e]
  exact hQ _ _
theorem IsList.keepBut {h h' : Heap} {l : Addr} {its : Array Value} {p : Addr} {o : Obj} (T : h.IsList l its) (k : KeepBut ([(p, o)].map (·.1)) h h') (hn : @Ne Nat l p) : h'.IsList l its := by
  obtain ⟨ob, e, r⟩ := T
  exact ⟨ob, k _ _ (by simpa using hn) e, r⟩
theorem pl_next {h : Heap} {p c : Addr} {g st : Int} {k ep : Nat} {t1 t2 t3 : Tok} (e : h.get? p = some (listOf #[.ref c, .int g t1, .int st t2, .int ((k : Int) + 1) t3] ep)) : h.get? p = some (poolO c g st (k + 1) ⟨t1, t2, t3⟩ ep) := e
theorem pool_end {Q : Value → Shared → Prop} {s : Shared} {t : Tok} {a : Int} {m : Nat} (hm : 0 < m) (h : ∀ d : Nat, d < m → Q (.int (d : Int) t) s) : Q (.int (a.fmod (m : Int)) t) s := by
  have h0 := Int.fmod_nonneg_of_pos a (b := (m : Int)) (by omega)
  have h1 := Int.fmod_lt_of_pos a (b := (m : Int)) (by omega)
  have := h (a.fmod (m : Int)).toNat (by omega)
  rwa [Int.toNat_of_nonneg h0] at this
section
variable {prog : Program} {w : World}
  {A : Around} {base : Heap} {fr : List Env} {s : Shared} {Q : Value → Shared → Prop} {E : Value → Shared → Prop}
theorem setup_ldraw0 : True := by
  k_with "m item" => ((with_reducible show wpAny _ _ (subscriptTail _ _ (Value.ref _) (Value.int _ _)) _ _ _); (try dsimp only); k_extra "m names"; k_dflt (refine item_cell (IsList.keep2 hlc' (Fr.keep kF)) (by k_extra "m om") (by k_extra "m om") ?_); intro z9 tz9; (try dsimp only))
  k_with "m len" => ((with_reducible show wpAny _ _ (call (Value.builtin _) [Value.ref _]) _ _ _); k_extra "m names"; k_dflt (refine len_ivals (IsList.keep2 hlc' (Fr.keep kF)) (by k_extra "m om") ?_); intro t9' tk9'; (try dsimp only))
  trivial
theorem c_law_draw {p c : Addr} {g st : Int} {k ep : Nat} {T : PT} {zs : List (Int × Tok)} {m : Nat} {u : Tok} (G : Gr w base) (B : Below A base fr s.heap) (hR : Room A 2) (C : PlC base fr p) (hp : s.heap.get? p = some (poolO c g st k T ep)) (hlc : s.heap.IsList c (ivals zs).toArray) (hcp : @Ne Nat c p) (hzs : zs.length ≤ 100) (hg : 0 ≤ g) (hst : 0 ≤ st) (hst2 : st < 2147483647) (hk : k ≤ 1000) (hm : 0 < m) (hm2 : m ≤ 100)
  (hret : ∀ (d : Nat) g' st' T' ep' t1 h' tk', d < m → 0 ≤ g' → 0 ≤ st' → st' < 2147483647 → KeepBut [p] s.heap h' → h'.get? p = some (poolO c g' st' (k + 1) T' ep') → Q (.int (d : Int) t1) { s with heap := h', toks := tk' }) :
  wpAny (model prog w) A (call (.ref 334) [.ref p, .int (m : Int) u]) Q E s := by
  k_extra "m enter"
  case kbinds => exact [("pool", .ref p), ("most", .int (m : Int) u)]
  case kM => exact [(p, poolO c g st k T ep)]
  case kN => exact (List.forall_mem_cons.mpr ⟨⟨hp, C.b1⟩, fun _ h => nomatch h⟩)
  case kO => exact C.off
  k_extra "m in"
  have hlc' : _ := IsList.keepBut hlc kb hcp
  clear hlc
  k_steps
  all_goals (dsimp only; k_extra "m out"; rename News _ _ _ _ => N9; have hfin := pl_next (N9 _ (.head _)).1; refine pool_end hm (fun d hd => hret d _ _ _ _ _ _ _ hd ?_ ?_ ?_ (kept kb (by assumption)) hfin))
  · exact Int.fdiv_nonneg hg (by omega)
  · exact hst
  · exact hst2
  all_goals first
    | exact hg
    | exact Int.fmod_nonneg_of_pos _ (by omega)
    | exact Int.fmod_lt_of_pos _ (by omega)
theorem c_law_drawZ {p c : Addr} {g st mi : Int} {k ep : Nat} {T : PT} {zs : List (Int × Tok)} {u : Tok} (G : Gr w base) (B : Below A base fr s.heap) (hR : Room A 2) (C : PlC base fr p) (hp : s.heap.get? p = some (poolO c g st k T ep)) (hlc : s.heap.IsList c (ivals zs).toArray) (hcp : @Ne Nat c p) (hzs : zs.length ≤ 100) (hg : 0 ≤ g) (hst : 0 ≤ st) (hst2 : st < 2147483647) (hk : k ≤ 1000) (hm : 0 < mi) (hm2 : mi ≤ 100)
  (hret : ∀ (d : Nat) g' st' T' ep' t1 h' tk', (d : Int) < mi → 0 ≤ g' → 0 ≤ st' → st' < 2147483647 → KeepBut [p] s.heap h' → h'.get? p = some (poolO c g' st' (k + 1) T' ep') → Q (.int (d : Int) t1) { s with heap := h', toks := tk' }) :
  wpAny (model prog w) A (call (.ref 334) [.ref p, .int mi u]) Q E s := by
  obtain ⟨m, rfl⟩ : ∃ m : Nat, mi = (m : Int) := ⟨mi.toNat, by omega⟩
  exact c_law_draw G B hR C hp hlc hcp hzs hg hst hst2 hk (by omega) (by omega) fun d g' st' T' ep' t1 h' tk' hd => hret d g' st' T' ep' t1 h' tk' (by omega)
end
theorem setup_ldraw : True := by
  k_with "m call" => ((with_reducible show wpAny _ _ (call (Value.ref 334) _ _) _ _ _); (try dsimp only); k_extra "m names"; k_dflt (refine' c_law_drawZ G (Inside.below IN kF) (Room.less hR' (by k_extra "m om")) CP9 ?kp ?kl hcp9 hzs9 ?kg ?ks ?ks2 ?kk ?km ?km2 ?_); (case kp => exact (kN (_, _) (by k_mem)).1); (case kl => exact News.isList kN (by k_mem)); (case kg => assumption); (case ks => assumption); (case ks2 => assumption); (case kk => k_extra "m om"); (case km => k_extra "m om"); (case km2 => k_extra "m om"); intro d9 g9 st9 T9 ep9 t9 h' tk' hd9 hg9 hst9 hst9' kk' hp'; (try dsimp only at kk'); have nf' := News.turn kF kN (by k_upd) kk' hp'; have F' := nf'.1; have N' := nf'.2; clear nf' kF kN kk' hp'; (try dsimp only))
  trivial

-- 45_lbox
theorem ivals_size {zs : List (Int × Tok)} (h : zs.length ≤ 100000) : (ivals zs).toArray.size ≤ sizeLine := by simp [ivals, sizeLine_eq]; omega
theorem pick_40 {zs : List (Int × Tok)} : kms_pick (ivals zs).toArray.toList none (some 40) = ivals (zs.take 40) := by
  have e : (ivals zs).toArray.toList = zs.map fun x => Value.int x.1 x.2 := rfl
  rw [e]
  unfold kms_pick ivals
  rw [List.map_take]
  simp [kms_lo, kms_hi]
theorem ivals_at {zs : List (Int × Tok)} {i : Nat} {v : Value} (h : (ivals zs).toArray[i]? = some v) : ∃ z t, v = .int z t := by
  rw [List.getElem?_toArray, ivals, List.getElem?_map] at h
  cases q : zs[i]? with
  | none => rw [q] at h; cases h
  | some x => rw [q] at h; cases h; exact ⟨_, _, rfl⟩
theorem ints_of : ∀ {ys : List Value}, (∀ (i : Nat) (y : Value), ys[i]? = some y → ∃ c u, y = .int c u) → ∃ zs, ys = ivals zs
  | [], _ => ⟨[], rfl⟩
  | y :: r, h => by
    obtain ⟨c, u, rfl⟩ := h 0 y rfl
    obtain ⟨zs, rfl⟩ := ints_of (ys := r) fun i z hz => h (i + 1) z (by simpa using hz)
    exact ⟨(c, u) :: zs, rfl⟩
theorem truthy_ivals {prog : Program} {w : World} {A : Around} {E : Value → Shared → Prop} {s : Shared} {l : Addr} {zs : List (Int × Tok)} {Q : Bool → Shared → Prop} (hl : s.heap.IsList l (ivals zs).toArray) (h : zs.length ≤ 100000)
    (hT : 0 < zs.length → ∀ tk, Q true { s with toks := tk }) (hF : ∀ tk, Q false { s with toks := tk }) : wpAny (model prog w) A (truthy (.ref l)) Q E s := by
  have e : (ivals zs).toArray.size = zs.length := by simp [ivals]
  refine wpAny_truthy_list hl (by rw [e]; omega) ?_
  cases zs with
  | nil => exact hF _
  | cons x r => exact hT (Nat.succ_pos _) _
theorem item_cell0 {prog : Program} {w : World} {A : Around} {E : Value → Shared → Prop} {s : Shared} {value slice : PySem.Expr} {l : Addr} {zs : List (Int × Tok)} {u : Tok} {Q : Value → Shared → Prop} (T : s.heap.IsList l (ivals zs).toArray) (hk : 0 < zs.length) (hx : zs.length ≤ 1000)
    (h : ∀ z t, Q (.int z t) s)
    (hs : subscripted slice false (.ref l) (.int 0 u) = operate [.ref l, .int 0 u] (getItem (.ref l) (.int 0 u)) := by with_unfolding_all rfl) (hg : ∀ r, letTemporaryGo value (.ref l) r = pure () := by intro _; with_unfolding_all rfl) :
    wpAny (model prog w) A (subscriptTail value slice (.ref l) (.int 0 u)) Q E s := item_cell (k := 0) T hk hx h hs hg
theorem setup_lbox0 : True := by
  k_with "m item" => ((with_reducible show wpAny _ _ (subscriptTail _ _ (Value.ref _) (Value.int _ _)) _ _ _); (try dsimp only); k_extra "m names"; k_dflt (refine item_cell0 (News.isList kN (by k_mem)) (by k_extra "m om") (by k_extra "m om") ?_); intro z9 tz9; (try dsimp only))
  trivial
section
variable {prog : Program} {w : World}
  {A : Around} {base : Heap} {fr : List Env} {s : Shared} {Q : Value → Shared → Prop} {E : Value → Shared → Prop}
theorem c_law_box {l : Addr} {ns : List (Int × Tok)} (G : Gr w base) (B : Below A base fr s.heap) (hR : Room A 3) (hl : s.heap.IsList l (ivals ns).toArray) (hns : ns.length ≤ 100)
  (hret : ∀ p c zs g st T ep n h' tk', zs.length ≤ 100 → 0 ≤ g → 0 ≤ st → st < 2147483647 → @Ne Nat c p → Keep s.heap h' → NewIn s.heap h' [(p, poolO c g st 0 T ep), (c, listOf (ivals zs).toArray n)] → Q (.ref p) { s with heap := h', toks := tk' }) :
  wpAny (model prog w) A (call (.ref 327) [.ref l]) Q E s := by
  k_extra "m enter"
  case kbinds => exact [("script", .ref l)]
  k_extra "m pure"
  have hl' : _ := IsList.keep2 hl kb.keep
  clear hl
  have stop : StopComp := ⟨rfl⟩
  k_steps
  refine Hold.go ?_
  k_dflt (refine LCg.Assign_ListComp_U (F₀ := by k_asm) (by rfl) (by with_unfolding_all rfl) (by with_unfolding_all rfl) (by decide) (by rfl) (by decide) (by rfl) (by rfl) (by rfl) ?_)
  k_steps
  refine kms_slice_lit (vl := .none) (vu := .int 40 _) (by assumption) (by assumption) (IsList.keep2 hl' (Fr.keep (by assumption))) IsPart.none (IsPart.int _ _) pick_40 ?_ (by with_unfolding_all rfl) (by intro _; with_unfolding_all rfl) (ivals_size (by omega))
  intro D9 h' F' N' lt
  have hn40 : (ns.take 40).length ≤ 40 := by rw [List.length_take]; omega
  generalize ns.take 40 = ms at *
  k_steps
  refine Hold.go (LCg.CompSrc.ledger rfl (by assumption) (by assumption) (.head _) (ivals_size (by omega)) ?_)
  intro g'
  refine rest_U (R := fun i y => ∃ c u, y = .int c u) _ ?_ (.inr ⟨_, .head _, rfl, _, rfl⟩) ?_
  · rintro i v hi hv I oI C oC D oD m₂ h tk E'' hC hx F N
    obtain ⟨z, t, rfl⟩ := ivals_at hv
    (try dsimp only)
    k_steps
    · exact F
    · exact N
  · intro ys hl hy
    obtain ⟨zs, rfl⟩ := ints_of hy
    unfold LCg.FinA
    intro D h tk F N off
    dsimp only
    have hzl : zs.length ≤ 100 := by simp [ivals] at hl; omega
    have stopB : StopBool := ⟨rfl⟩
    have stopI : StopIf := ⟨rfl⟩
    k_steps
    refine Hold.go (cutAt (σ := Int × Tok) (by assumption) (fun _ => [(D, PySem.W.listOf (ivals zs).toArray (ivals zs).length)]) (fun c => [("great", .int c.1 c.2), ("cells", .ref D)]) (fun v c => v = .next ∧ 0 ≤ c.1) ?_ ?_)
    · (rename StopIf => st0; clear st0)
      k_steps
      refine Hold.go (cutAt (σ := Tok) (by assumption) (fun _ => [(D, PySem.W.listOf (ivals zs).toArray (ivals zs).length)]) (fun c => [("great", .int 0 c), ("cells", .ref D)]) (fun v c => v = true → 0 < zs.length) ?_ ?_)
      · (rename StopBool => st0; clear st0)
        k_steps
        refine truthy_ivals (isList_of (by assumption) (by k_mem)) (by omega) ?_ ?_
        · intro hz tk9
          simp only [if_true]
          k_steps
          all_goals exact Cut.intro _ (by assumption) (by assumption) (fun _ => hz) (fun p hp => by rw [List.mem_singleton.mp hp]; exact .head _) ⟨rfl, rfl, trivial⟩
        · intro tk9
          simp only [Bool.false_eq_true, if_false]
          exact Cut.intro _ (by assumption) (by assumption) (fun h => nomatch h) (fun p hp => by rw [List.mem_singleton.mp hp]; exact .head _) ⟨rfl, rfl, trivial⟩
      · rintro v c u₂ h' tk' hv F' N'
        (rename StopBool => st0; clear st0)
        (try dsimp only at F' N' ⊢)
        cases v with
        | true =>
          have hv := hv rfl
          simp only [if_true]
          k_steps
          refine Cut.intro (_, _) (by assumption) (by assumption) ⟨rfl, ?_⟩ (fun p hp => hp) ⟨rfl, rfl, trivial⟩
          dsimp only
          refine Int.fmod_nonneg_of_pos _ ?_
          decide +kernel
        | false =>
          simp only [Bool.false_eq_true, if_false]
          k_steps
          exact Cut.intro (0, _) (by assumption) (by assumption) ⟨rfl, Int.le_refl _⟩ (fun p hp => hp) ⟨rfl, rfl, trivial⟩
    refine fun _ => pr2 fun gr tg u₂ h' tk' => an2 fun e9 hgr F' N' => ?_
    subst e9
    (try dsimp only at hgr F' N' ⊢)
    (rename StopIf => st0; clear st0)
    k_steps
    refine Hold.go (For_turns (by assumption) ?_ (by intro _; rfl) (Inside.pass IN))
    k_steps
    refine Hold.go (iter_listTurns rfl (by assumption) (by assumption) (.head _) rfl rfl fun I hI => ?_)
    refine for_rest (σ := Nat × Int × Tok) (fun c => [(D, PySem.W.listOf (ivals zs).toArray (ivals zs).length)]) (fun c => [("state", .int c.2.1 c.2.2), ("great", .int gr tg), ("cells", .ref D)])
      (fun r c => r = (ivals (zs.drop c.1)).map .val ∧ 0 ≤ c.2.1 ∧ c.2.1 < 2147483647)
      I "list_iterator" [(D, PySem.W.listOf (ivals zs).toArray (ivals zs).length)] (fun c => ⟨.head _, trivial⟩) (fun c p hp => by
        rw [List.mem_singleton.mp hp]; exact list_cls) ?_ ?_ _ (0, 7, _) _ _ ⟨rfl, by dsimp only; omega, by dsimp only; omega⟩ ⟨rfl, rfl, rfl, trivial⟩ (fun p hp => hp)
    · refine fun a r => pr3 fun i st ts u₁ h tk v o => an3 fun hr hp1 hp2 hv F' N' => ?_
      dsimp only at hr hp1 hp2 F' N'
      have hIl : @Ne Nat I D := Nat.ne_of_gt (hI _ (.head _))
      cases hd : zs.drop i with
      | nil => rw [hd] at hr; cases hr
      | cons x rest =>
        rw [hd] at hr
        obtain ⟨rfl, rfl⟩ := List.cons.inj hr
        obtain ⟨z, t⟩ := x
        have hd2 : zs.drop (i + 1) = rest := by rw [← List.drop_drop, hd]; rfl
        obtain rfl : v = .int z t := hv
        (try dsimp only)
        k_steps
        k_extra "m turn"
        exact FEnd.intro (i + 1, _, _) (by assumption) (by assumption) (.head _) (fun p hp => .tail _ hp) ⟨by dsimp only; rw [hd2]; rfl, Int.fmod_nonneg_of_pos _ (by decide), Int.fmod_lt_of_pos _ (by decide)⟩ ⟨rfl, rfl, rfl, trivial⟩
    · refine pr3 fun i st ts u₁ h tk => an3 fun hr hp1 hp2 F' N' => ?_
      dsimp only at hr hp1 hp2 F' N'
      (try dsimp only)
      k_steps
      k_extra "m out"
      rename News _ _ _ _ => N9
      exact hret l' D zs gr st ⟨_, _, _⟩ _ _ _ _ hzl hgr hp1 hp2 (Nat.ne_of_lt l1) (kept0 kb (by assumption)) (NewIn.two kb N9)
end
theorem setup_lbox : True := by
  k_with "m call" => ((with_reducible show wpAny _ _ (call (Value.ref 327) _ _) _ _ _); (try dsimp only); k_extra "m names"; k_dflt (refine' c_law_box G (Inside.below IN kF) (Room.less hR' (by k_extra "m om")) (IsList.keep2 hls' (Fr.keep kF)) hlsn ?_); intro po c9 zs9 g9 st9 T9 ep9 n9 h' tk' hzs9 hg9 hst9 hst9' hcp9 kk' nw9; dsimp only at kk' nw9; have CP9 := PlC.mk (base_none (Inside.below IN kF) (nw9 _ (.head _)).1) (off_fresh (M := [po]) (Inside.below IN kF) (fun a ha => by rw [List.mem_singleton.mp ha]; exact (nw9 _ (.head _)).1)); have N' := News.plusL kF kN kk' nw9; have F' := Fr.keepAll kF kk'; (try simp only [List.nil_append, List.cons_append] at N'); clear kF kN kk'; (try dsimp only))
  trivial


-- 46_pieces
noncomputable def small5 (xs : List (Array UInt8 × Tok)) : Prop := ∀ x ∈ xs, x.1.size ≤ 5
theorem small5_app {xs ys : List (Array UInt8 × Tok)} (h : small5 xs) (h2 : small5 ys) : small5 (xs ++ ys) := fun x hx => (List.mem_append.mp hx).elim (h x) (h2 x)
theorem small5_one {b : Array UInt8} {t : Tok} (h : b.size ≤ 5) : small5 [(b, t)] := fun x hx => by rw [List.mem_singleton.mp hx]; exact h
theorem flat_go : ∀ (xs : List (Array UInt8 × Tok)) (a : Array UInt8), small5 xs → (xs.foldl (fun a x => a ++ x.1) a).size ≤ a.size + 5 * xs.length
  | [], a, _ => Nat.le_refl _
  | x :: r, a, h => by
    have h1 := h x (.head _)
    have h2 := flat_go r (a ++ x.1) fun y hy => h y (.tail _ hy)
    rw [Array.size_append] at h2
    rw [List.foldl_cons, List.length_cons]
    omega
theorem flat_small {xs : List (Array UInt8 × Tok)} (h : small5 xs) : (flat xs).size ≤ 5 * xs.length := by
  have := flat_go xs #[] h
  unfold flat
  simpa using this
noncomputable def insL (xs : List (Array UInt8 × Tok)) (d : Nat) (y : Array UInt8 × Tok) : List (Array UInt8 × Tok) := xs.take d ++ y :: xs.drop d
theorem insL_len {xs : List (Array UInt8 × Tok)} {d : Nat} {y : Array UInt8 × Tok} : (insL xs d y).length = xs.length + 1 := by
  unfold insL
  rw [List.length_append, List.length_cons, List.length_take, List.length_drop]; omega
theorem insL_small {xs : List (Array UInt8 × Tok)} {d : Nat} {y : Array UInt8 × Tok} (h : small5 xs) (hy : y.1.size ≤ 5) : small5 (insL xs d y) := fun x hx => by
  rcases List.mem_append.mp hx with hx | hx
  · exact h x (List.mem_of_mem_take hx)
  · rcases List.mem_cons.mp hx with rfl | hx
    · exact hy
    · exact h x (List.mem_of_mem_drop hx)
theorem ins_eq {xs : List (Array UInt8 × Tok)} {d : Nat} {b : Array UInt8} {t : Tok} (hd : d ≤ xs.length) : kl_ins (bvals xs).toArray.toList (d : Int) (.bytes b t) = bvals (insL xs d (b, t)) := by
  have e : (bvals xs).toArray.toList = xs.map fun x => Value.bytes x.1 x.2 := rfl
  rw [e]
  unfold kl_ins insL bvals
  rw [if_neg (by omega), List.length_map, show min ((d : Int).toNat) xs.length = d by omega, List.map_append, List.map_cons, List.map_take, List.map_drop]
theorem cut_eq : ∀ {xs : List (Array UInt8 × Tok)} {d : Nat} (hd : d < xs.length), kl_cut (bvals xs) d = some (bvals (xs.take d), .bytes xs[d].1 xs[d].2, bvals (xs.drop (d + 1)))
  | x :: r, 0, _ => rfl
  | x :: r, d + 1, hd => by
    have ih := cut_eq (xs := r) (d := d) (by simpa using hd)
    show (match kl_cut (bvals r) d with | some (p, y, q) => _ | none => _) = _
    rw [ih]
    rfl
theorem pop_app {xs : List (Array UInt8 × Tok)} {d : Nat} : bvals (xs.take d) ++ bvals (xs.drop (d + 1)) = bvals (xs.take d ++ xs.drop (d + 1)) := by unfold bvals; rw [List.map_append]
section
variable {prog : Program} {w : World} {A : Around} {E : Value → Shared → Prop} {s : Shared} {h₀ : Heap} {L D : Addr} {m : Str → Option Value} {news news' : List (Addr × Obj)} {xs : List (Array UInt8 × Tok)} {n : Nat} {Q : Value → Shared → Prop}
theorem insert_b {d : Nat} {u t : Tok} {b : Array UInt8} (hd : d ≤ xs.length) (hx : xs.length ≤ 1000) (F : Fr h₀ L s.heap m) (N : News h₀ L s.heap news)
    (U : Upd D (listOf (bvals xs).toArray n) (listOf (bvals (insL xs d (b, t))).toArray (n + 1)) news news') (h : ∀ h', Fr h₀ L h' m → News h₀ L h' news' → Q .none { s with heap := h' }) :
    wpAny (model prog w) A (call (.builtin "list.insert") [.ref D, .int (d : Int) u, .bytes b t]) Q E s :=
  kl_insert F N (by unfold Builtin.List.listFitsIndex; simp; omega) (ins_eq hd) U (by simp [bvals, sizeLine_eq]; omega) h
theorem pop_b {d : Nat} {u : Tok} (hd : d < xs.length) (hx : xs.length ≤ 1000) (F : Fr h₀ L s.heap m) (N : News h₀ L s.heap news)
    (U : Upd D (listOf (bvals xs).toArray n) (listOf (bvals (xs.take d ++ xs.drop (d + 1))).toArray (n + 1)) news news') (h : ∀ v h', Fr h₀ L h' m → News h₀ L h' news' → Q v { s with heap := h' }) :
    wpAny (model prog w) A (call (.builtin "list.pop") [.ref D, .int (d : Int) u]) Q E s := by
  refine kl_popAt F N (k := d) (by unfold Builtin.List.listFitsIndex; simp; omega) ?_ (cut_eq hd) (by rw [pop_app]; exact U) (by simp [bvals, sizeLine_eq]; omega) (h _)
  unfold seqIndex?
  simp; omega
theorem item_b {value slice : PySem.Expr} {l : Addr} {k : Nat} {u : Tok} (T : s.heap.IsList l (bvals xs).toArray) (hk : k < xs.length) (hx : xs.length ≤ 1000)
    (h : ∀ b t, (b, t) ∈ xs → Q (.bytes b t) s)
    (hs : subscripted slice false (.ref l) (.int (k : Int) u) = operate [.ref l, .int (k : Int) u] (getItem (.ref l) (.int (k : Int) u)) := by with_unfolding_all rfl) (hg : ∀ r, letTemporaryGo value (.ref l) r = pure () := by intro _; with_unfolding_all rfl) :
    wpAny (model prog w) A (subscriptTail value slice (.ref l) (.int (k : Int) u)) Q E s := by
  refine item_listL T (by omega) (by omega) (x := .bytes xs[k].1 xs[k].2) ?_ (h _ _ (List.getElem_mem hk)) hs hg
  simp [bvals, hk]
theorem item_piece {value slice : PySem.Expr} {k : Nat} {u : Tok} (X : (Mine.hd0.heap_1 w.params).In s.heap) (hk : k < 16)
    (h : ∀ b t, b.size ≤ 5 → Q (.bytes b t) s)
    (hs : subscripted slice false (.ref 316) (.int (k : Int) u) = operate [.ref 316, .int (k : Int) u] (getItem (.ref 316) (.int (k : Int) u)) := by with_unfolding_all rfl) (hg : ∀ r, letTemporaryGo value (.ref 316) r = pure () := by intro _; with_unfolding_all rfl) :
    wpAny (model prog w) A (subscriptTail value slice (.ref 316) (.int (k : Int) u)) Q E s := by
  have T := tupK (a := 316) (l := [.bytes #[97] 617, .bytes #[98, 32] 618, .bytes #[34, 113, 32, 114, 34] 619, .bytes #[91, 108, 93] 620, .bytes #[40, 99, 41] 621, .bytes #[32] 622, .bytes #[60] 623, .bytes #[62] 624, .bytes #[44] 625, .bytes #[64] 626, .bytes #[59] 627, .bytes #[58] 628, .bytes #[46] 629, .bytes #[92] 630, .bytes #[120, 46, 121] 631, .bytes #[34, 34] 632]) X (by k_is)
  have hx : ∀ (xs : List (Array UInt8 × Tok)), small5 xs → ∀ (k : Nat), k < xs.length → ∃ b t, b.size ≤ 5 ∧ (bvals xs)[k]? = some (.bytes b t) := fun xs hs k hk => ⟨xs[k].1, xs[k].2, hs _ (List.getElem_mem hk), by simp [bvals, hk]⟩
  obtain ⟨b, t, hb, e⟩ := hx [(#[97], 617), (#[98, 32], 618), (#[34, 113, 32, 114, 34], 619), (#[91, 108, 93], 620), (#[40, 99, 41], 621), (#[32], 622), (#[60], 623), (#[62], 624), (#[44], 625), (#[64], 626), (#[59], 627), (#[58], 628), (#[46], 629), (#[92], 630), (#[120, 46, 121], 631), (#[34, 34], 632)] (by unfold small5; decide) k hk
  refine item_tuple T (by omega) (by omega) (j := k) ?_ (x := .bytes b t) ?_ (h b t hb) hs hg
  · unfold seqIndex?
    simp; omega
  · rw [List.getElem?_toArray]; exact e
noncomputable def nvals (zs : List (Nat × Tok)) : List Value := zs.map fun x => .int (x.1 : Int) x.2
noncomputable def rowOk (zs : List (Nat × Tok)) : Prop := 0 < zs.length ∧ zs.length ≤ 11 ∧ ∀ x ∈ zs, x.1 < 16
theorem item_row {value slice : PySem.Expr} {k : Nat} {u : Tok} (X : (Mine.hd0.heap_1 w.params).In s.heap) (hk : k < 5)
    (h : ∀ a zs, rowOk zs → (∀ h', (Mine.hd0.heap_1 w.params).In h' → IsTup h' a (nvals zs).toArray) → Q (.ref a) s)
    (hs : subscripted slice false (.ref 322) (.int (k : Int) u) = operate [.ref 322, .int (k : Int) u] (getItem (.ref 322) (.int (k : Int) u)) := by with_unfolding_all rfl) (hg : ∀ r, letTemporaryGo value (.ref 322) r = pure () := by intro _; with_unfolding_all rfl) :
    wpAny (model prog w) A (subscriptTail value slice (.ref 322) (.int (k : Int) u)) Q E s := by
  have T := tupK (a := 322) (l := [.ref 317, .ref 318, .ref 319, .ref 320, .ref 321]) X (by k_is)
  have go : ∀ a zs, [Value.ref 317, .ref 318, .ref 319, .ref 320, .ref 321][k]? = some (.ref a) → rowOk zs → (∀ h', (Mine.hd0.heap_1 w.params).In h' → IsTup h' a (nvals zs).toArray) → wpAny (model prog w) A (subscriptTail value slice (.ref 322) (.int (k : Int) u)) Q E s := fun a zs e ok t => by
    refine item_tuple T (by omega) (by omega) (j := k) ?_ (x := .ref a) ?_ (h a zs ok t) hs hg
    · unfold seqIndex?
      simp; omega
    · rw [List.getElem?_toArray]; exact e
  match k, hk, go with
  | 0, _, go => exact go 317 [(0, 634), (9, 635), (1, 636)] rfl (by unfold rowOk; decide) fun h' X' => tupK X' (by k_is)
  | 1, _, go => exact go 318 [(0, 637), (6, 638), (1, 639), (9, 640), (0, 641), (7, 642)] rfl (by unfold rowOk; decide) fun h' X' => tupK X' (by k_is)
  | 2, _, go => exact go 319 [(2, 643), (11, 644), (0, 645), (9, 646), (3, 647), (8, 648), (1, 649), (9, 650), (0, 651), (10, 652)] rfl (by unfold rowOk; decide) fun h' X' => tupK X' (by k_is)
  | 3, _, go => exact go 320 [(6, 653), (9, 654), (0, 655), (11, 656), (0, 657), (12, 658), (1, 659), (9, 660), (14, 661), (7, 662)] rfl (by unfold rowOk; decide) fun h' X' => tupK X' (by k_is)
  | 4, _, go => exact go 321 [(0, 663), (11, 664), (10, 665), (8, 666), (0, 667), (9, 668), (0, 669)] rfl (by unfold rowOk; decide) fun h' X' => tupK X' (by k_is)
end
section
open LCg
variable {prog : Program} {w : World} {A : Around} {E : Value → Shared → Prop} {s : Shared} {h₀ : Heap} {L : Addr} {m : Str → Option Value} {env : Env}
/-- the source of a comprehension is a tuple that stands ahead of the call -/
noncomputable def SrcTp (prog : Program) (w : World) (A : Around) (h₀ : Heap) (L : Addr) (m : Str → Option Value) (env : Env) (elt : PySem.Expr) (x : Str) (scope : Scope) (cl : List (Str × Addr)) (Fin : Shared → List Value → List (Addr × Obj) → Prop) (xv : Value) (s₁ : Shared) : Prop :=
  ∃ a its news, xv = .ref a ∧ A.handled = none ∧ Fr h₀ L s₁.heap m ∧ News h₀ L s₁.heap news ∧ IsTup h₀ a its ∧ its.size ≤ sizeLine ∧
    ∀ s₂ : Shared, (∃ h, s₂ = { s₁ with heap := h }) → CompRest prog w A h₀ L m env elt x scope cl s₂ (fun _ => True) (fun i v => its[i]? = some v) (Fin s₂) its.size 0 [] news
theorem SrcTp.mk {elt : PySem.Expr} {x : Str} {scope : Scope} {cl : List (Str × Addr)} {Fin : Shared → List Value → List (Addr × Obj) → Prop} {a : Addr} {its : Array Value} {news : List (Addr × Obj)} {s₁ : Shared}
    (hh : A.handled = none) (F : Fr h₀ L s₁.heap m) (N : News h₀ L s₁.heap news) (ht : IsTup h₀ a its) (hsz : its.size ≤ sizeLine)
    (h : ∀ g, CompRest prog w A h₀ L m env elt x scope cl { s₁ with heap := g } (fun _ => True) (fun i v => its[i]? = some v) (Fin { s₁ with heap := g }) its.size 0 [] news) :
    SrcTp prog w A h₀ L m env elt x scope cl Fin (.ref a) s₁ := ⟨a, its, news, rfl, hh, F, N, ht, hsz, fun _ ⟨g, e⟩ => e ▸ h g⟩
theorem tup_keep {h h' : Heap} {a : Addr} {its : Array Value} (T : IsTup h a its) (k : ∀ b o, h.get? b = some o → h'.get? b = some o) : IsTup h' a its := by
  obtain ⟨o, e, r⟩ := T
  exact ⟨o, k _ _ e, r⟩
theorem asg_tup {elt iter : PySem.Expr} {x y : Str} {px py : Pos} {scope : Scope} {cl : List (Str × Addr)} {pos spos : Pos} {Q : Flow → Shared → Prop} (_F : Fr h₀ L s.heap m) (hLe : env.locals = L)
    (hsw : swapsWith (.ListComp elt [⟨.Name x px, iter, [], 0⟩] scope pos) (some (.Name y py)) spos.line env = pure true)
    (hclos : closureFor scope env = pure cl) (hcell : ∀ z ∈ scope.names, z.2 ≠ .cell) (hkind : scope.kind = .function)
    (hnames : ∀ z ∈ scope.names, z.2 = .local → scope.names.lookup z.1 = some .local) (hx : scope.names.lookup x = some .local)
    (hy : env.kindOf y = some .local) (hp : (env.scope.kind == .class || (env.scope.kind == .module && env.locals != env.globals)) = false)
    (h : wpAny (model prog w) A (eval iter env) (SrcTp prog w A h₀ L m env elt x scope cl (fun s₂ => FinA h₀ L m s₂ y Q)) E s)
    (hs : ∀ x, foldedSetIterable iter env x = pure x := by intro _; rfl) :
    wpAny (model prog w) A (exec (.Assign [.Name y py] (.ListComp elt [⟨.Name x px, iter, [], 0⟩] scope pos) spos) env) Q E s := by
  subst hLe
  rw [exec_Assign_Name_used _ _ _ _ hsw]
  refine wpAny_bind (wpAny_standAt (wpAny_bind ?_))
  show wpAny _ A (do let _ ← comprehension (.ListComp elt [⟨.Name x px, iter, [], 0⟩] scope pos) scope env _ (newList []) false (eval iter env) (some (assign (.Name y py) env))) _ _ s
  refine wpAny_bind (wpAny_mono (wpAny_comprehension_free (use := some (assign (.Name y py) env)) (Q := fun _ s' => Q .next s') rfl hs hclos hkind hnames
    (wpAny_mono h (fun xv s₁ h₁ => ?_) fun _ _ e => e)) (fun _ s' hq => wpAny_pure (wpAny_pure hq)) fun _ _ e => e)
  obtain ⟨a, its, news, rfl, hh, F, N, ht, hsz, R⟩ := h₁
  have ht1 := tup_keep ht F.keep
  have hlt : a < s₁.heap.objs.size := by obtain ⟨_, e, _⟩ := ht1; exact Heap.lt_size e
  refine wpAny_pyIter_tuple ht1 ?_
  have up : ∀ b o, s₁.heap.get? b = some o → (s₁.heap.push { cls := .type "tuple_iterator", data := .fields #[.ref a, .int 0 0] }).get? b = some o := fun b o e => Heap.get?_push_of_some _ e
  refine block_U (Walks.tuple hh s₁.heap.objs.size a (Nat.ne_of_lt hlt) its) hsz (fun i h st => by obtain ⟨o, e, _⟩ := st.1; exact ⟨o, e⟩) (fun i h h' o nw st e e' k _ _ => ⟨by obtain ⟨o', q, r⟩ := st.1; rw [e] at q; cases q; exact ⟨o, e', r⟩, tup_keep ht k⟩) hcell hkind hx ⟨⟨_, Heap.get?_push_size _ rfl, rfl, rfl⟩, tup_keep ht1 up⟩ (fun b hb => ?_)
    (F.keeps up) (N.grown up) (Nat.ne_of_lt F.ns.lt) (next_is_new F) (fun p hp => Nat.ne_of_lt (Heap.lt_size (N p hp).1)) trivial (R _ ⟨_, rfl⟩) ?_
  · show b < (s₁.heap.push _).objs.size
    rw [Heap.size_push]
    rcases List.mem_cons.mp hb with rfl | hb
    · exact Nat.lt_succ_self _
    · rw [List.mem_singleton.mp hb]; exact Nat.lt_succ_of_lt hlt
  intro D C h₂ tk m₂ ys nw F₂ N₂ o1 hC hC₀ hD₀ hCL hDL hCD offC fin
  show wpAny _ A (assign (.Name y py) env (.ref D)) _ _ _
  refine wpAny_assign_Name (wpAny_storeName_local hy F₂.ns (fun h₃ ns₃ sb₃ => ?_) hp)
  have nL : h₀.get? env.locals = none := Heap.get?_none_of_le F₂.above
  refine ⟨m₂, hC.sameBut sb₃ hCL, fun h₄ sb₄ => fin D h₄ _ (Fr.change ⟨ns₃, fun b o e => sb₃.extBut b o (fun q => by rw [q, nL] at e; cases e) (F₂.keep b o e), F₂.above⟩ sb₄ hCL hC₀) (fun q hq => ⟨?_, (N₂ q hq).2⟩) o1⟩
  refine sb₄.extBut _ _ (fun e => ?_) (sb₃.extBut _ _ (N₂ q hq).2.1 (N₂ q hq).1)
  rcases List.mem_cons.mp hq with rfl | hq
  · exact hCD e.symm
  · exact offC q hq e
end
theorem setup_pieces : True := by
  k_with "m insert" => ((with_reducible show wpAny _ _ (call (Value.builtin _) [Value.ref _, Value.int _ _, Value.bytes _ _]) _ _ _); k_extra "m names"; k_dflt (refine' insert_b ?khd ?khx kF kN ?kU ?_); (case kU => k_upd); (case khd => k_extra "m om"); (case khx => k_extra "m om"); intro h' F' N'; clear kF kN; (try dsimp only))
  k_with "m pop" => ((with_reducible show wpAny _ _ (call (Value.builtin _) [Value.ref _, Value.int _ _]) _ _ _); k_extra "m names"; k_dflt (refine' pop_b ?khd ?khx kF kN ?kU ?_); (case kU => k_upd); (case khd => k_extra "m om"); (case khx => k_extra "m om"); intro v9 h' F' N'; clear kF kN; (try dsimp only))
  trivial

-- 47_eq
section
open PySem.SeqAt
variable {A : Around} {s : Shared}
theorem eqAt_str {x : Str} {t u : Tok} : EqAt A s (.str x t) (.str x u) true := by
  have h := (eqGives_str x x t u).at A s
  rwa [show (x == x) = true by simp] at h
theorem all_true : ∀ (n : Nat), (List.range n).all (fun _ => true) = true := fun n => by rw [List.all_eq_true]; intro _ _; rfl
theorem rc_tuples {l b : Addr} {xs ys : List Value} (hne : l ≠ b) (hl : s.heap.get? l = some (tupO xs)) (hb : s.heap.get? b = some (tupO ys)) (hsz : xs.length = ys.length) (hu : A.units < cLine)
    (he : ∀ j (h1 : j < xs.length) (h2 : j < ys.length), EqAt A.in1 s xs[j] ys[j] true) : EqAt A s (.ref l) (.ref b) true := by
  refine EqAt.of_refs hne ?_
  have h := RcAt.tuples (A := A) (s := s) (l := l) (b := b) (items := xs.toArray) (items2 := ys.toArray) (e := fun _ => true) ⟨_, hl, rfl, _, rfl⟩ ⟨_, hb, rfl, _, rfl⟩ hu (fun j h1 h2 => by simpa using he j (by simpa using h1) (by simpa using h2))
  rw [all_true] at h
  simpa [hsz] using h
theorem eq_mb {l b : Addr} {a1 b1 c1 : Str} {u0 u1 u2 u3 v0 v1 v2 v3 : Tok} (hl : s.heap.get? l = some (mbT a1 b1 c1 u0 u1 u2 u3)) (hb : s.heap.get? b = some (mbT a1 b1 c1 v0 v1 v2 v3)) (hu : A.units < cLine) : EqAt A s (.ref l) (.ref b) true := by
  by_cases e : l = b
  · subst e; exact EqAt.same _
  · refine rc_tuples e hl hb rfl hu fun j h1 _ => ?_
    match j, h1 with
    | 0, _ => exact eqAt_str
    | 1, _ => exact eqAt_str
    | 2, _ => exact eqAt_str
    | 3, _ => exact eqAt_str
theorem eq_inner {d1 d2 : DA} (h1 : DOk true d1) (h2 : DOk true d2) (hp : d1.pl = d2.pl) (k1 : ∀ q ∈ d1.led, s.heap.get? q.1 = some q.2) (k2 : ∀ q ∈ d2.led, s.heap.get? q.1 = some q.2) (hu : A.units < cLine) : EqAt A s (.ref d1.addr) (.ref d2.addr) true := by
  cases h1
  cases h2
  injection hp with e1 e2 e3
  subst e1 e2 e3
  exact eq_mb (k1 _ (.head _)) (k2 _ (.head _)) hu
theorem refs_at {ds : List DA} {j : Nat} (h : j < (refsD ds).length) : (refsD ds)[j] = .ref (ds[j]'(by simpa [refsD] using h)).addr := by simp [refsD]
theorem pl_at {d1 d2 : List DA} (h : d1.map (·.pl) = d2.map (·.pl)) {j : Nat} (h1 : j < d1.length) (h2 : j < d2.length) : d1[j].pl = d2[j].pl := by
  have := congrArg (fun l => l[j]?) h
  simpa [h1, h2] using this
theorem led_at {ds : List DA} {P : Addr × Obj → Prop} (k : ∀ q ∈ ledD ds, P q) {j : Nat} (h : j < ds.length) : ∀ q ∈ (ds[j]).led, P q := fun q hq => k q (List.mem_flatMap.mpr ⟨_, List.getElem_mem h, hq⟩)
theorem eq_D {d1 d2 : DA} (h1 : DOk false d1) (h2 : DOk false d2) (hp : d1.pl = d2.pl) (k1 : ∀ q ∈ d1.led, s.heap.get? q.1 = some q.2) (k2 : ∀ q ∈ d2.led, s.heap.get? q.1 = some q.2) (hu : A.units + 5 < cLine) : EqAt A s (.ref d1.addr) (.ref d2.addr) true := by
  cases h1 with
  | mb m a1 b1 c1 u0 u1 u2 u3 =>
    cases h2 with
    | mb =>
      injection hp with e1 e2 e3
      subst e1 e2 e3
      exact eq_mb (k1 _ (.head _)) (k2 _ (.head _)) (by omega)
    | gp => cases hp
  | gp g t a1 u0 u1 ds ms ok e =>
    cases h2 with
    | mb => cases hp
    | gp g' t' a1' u0' u1' ds' ms' ok' e' =>
      injection hp with e1 e2
      subst e1 e2
      dsimp only at k1 k2 ⊢
      by_cases eg : g = g'
      · subst eg; exact EqAt.same _
      · refine rc_tuples eg (k1 _ (.head _)) (k2 _ (.head _)) rfl (by omega) fun j h1 _ => ?_
        have hpl : ds.map (·.pl) = ds'.map (·.pl) := e.trans e'.symm
        have hlen : ds.length = ds'.length := by rw [← List.length_map (f := (·.pl)), hpl, List.length_map]
        match j, h1 with
        | 0, _ => exact eqAt_str
        | 1, _ => exact eqAt_str
        | 2, _ =>
          show EqAt A.in1 s (.ref t) (.ref t') true
          by_cases et : t = t'
          · subst et; exact EqAt.same _
          · refine rc_tuples et (k1 _ (.tail _ (.head _))) (k2 _ (.tail _ (.head _))) (by simp [refsD, hlen]) (by show A.units + 1 < cLine; omega) fun j h1 h2 => ?_
            have j1 : j < ds.length := by simpa [refsD] using h1
            have j2 : j < ds'.length := by simpa [refsD] using h2
            rw [refs_at, refs_at]
            exact eq_inner (ok _ (List.getElem_mem j1)) (ok' _ (List.getElem_mem j2)) (pl_at hpl j1 j2) (led_at (fun q hq => k1 q (.tail _ (.tail _ hq))) j1) (led_at (fun q hq => k2 q (.tail _ (.tail _ hq))) j2) (by show A.units + 1 + 1 < cLine; omega)
/-- two lists that tell the same are equal -/
theorem eq_told {prog : Program} {w : World} {E : Value → Shared → Prop} {Q : Value → Shared → Prop} {l b : Addr} {ds ds' : List DA} (hl : s.heap.IsList l (refsD ds).toArray) (hb : s.heap.IsList b (refsD ds').toArray) (ok : ∀ d ∈ ds, DOk false d) (ok' : ∀ d ∈ ds', DOk false d) (hpl : ds.map (·.pl) = ds'.map (·.pl))
    (k1 : ∀ q ∈ ledD ds, s.heap.get? q.1 = some q.2) (k2 : ∀ q ∈ ledD ds', s.heap.get? q.1 = some q.2) (hu : A.units + 6 < cLine) (h : Q (.bool true) s) : wpAny (model prog w) A (compareOp .Eq (.ref l) (.ref b)) Q E s := by
  have hlen : ds.length = ds'.length := by rw [← List.length_map (f := (·.pl)), hpl, List.length_map]
  refine eq_listAt hl hb (e := fun _ => true) (by simp [refsD, hlen]) (by omega) (fun j h1 h2 => ?_) (by rw [all_true]; exact h)
  have j1 : j < ds.length := by simpa [refsD] using h1
  have j2 : j < ds'.length := by simpa [refsD] using h2
  rw [List.getElem_toArray, List.getElem_toArray, refs_at, refs_at]
  exact eq_D (ok _ (List.getElem_mem j1)) (ok' _ (List.getElem_mem j2)) (pl_at hpl j1 j2) (led_at k1 j1) (led_at k2 j2) (by show A.units + 1 + 5 < cLine; omega)
end


-- 48_catch
/-- the dict of a fault, written out -/
noncomputable def faultO (h1 h2 : Int) (t1 t2 t3 : Tok) (v : Value) (p : Int) (n : Nat) (sl : Array (Option Value)) : Obj := ⟨.type "dict", none, .dict #[⟨h1, .str "what" t1, v⟩, ⟨h2, .str "at" t2, .int p t3⟩] n, sl⟩
theorem fd_on {h : Heap} {d : Addr} {p : Int} {P : Prop} (x : FaultDict h d p) (k : ∀ h1 h2 t1 t2 t3 v n sl, h.get? d = some (faultO h1 h2 t1 t2 t3 v p n sl) → P) : P := by
  obtain ⟨h1, h2, t1, t2, t3, v, n, sl, e⟩ := x
  exact k h1 h2 t1 t2 t3 v n sl e
theorem catch_fault {prog : Program} {w : World} {A : Around} {E : Value → Shared → Prop} {s' : Shared} {g h : Heap} {outer : List Env} {L a e : Addr} {m : Str → Option Value} {name : Str} {scope : Scope} {cd : Value} {p : Int} {yv : Value}
    {t : PySem.Expr} {n : Str} {b₀ : Stmt} {suite : List Stmt} {pos : Pos} {rest : List ExceptHandler} {Q : Flow → Shared → Prop}
    (X : (Mine.hd0.heap_1 w.params).In g) (hfr : A.frames = some (envOf name scope L a cd :: outer)) (F : Fr g L h m) (hm : m (Str.ofString "octets") = some yv) (u : h.UpToSlots s'.heap) (x : Fly g (envOf name scope L a cd :: outer) e p .none s'.heap)
    (hev : ∀ h' tk (Q' : Value → Shared → Prop) (E' : Value → Shared → Prop), Fr g L h' m → (∀ tk', Q' (.ref 52) { s' with heap := h', toks := tk' }) → wpAny (model prog w) (A.mark (some (.ref e))) (eval t (envOf name scope L a cd)) Q' E' { s' with heap := h', toks := tk })
    (k : ∀ h' tk oe h1 h2 t1 t2 t3 v nn sl, Fr g L h' (fun z => if z = n then some (.ref e) else m z) → InstAt h' e oe 52 (some (faultO h1 h2 t1 t2 t3 v p nn sl)) →
      wpAny (model prog w) (A.mark (some (.ref e))) (execs (b₀ :: suite) (envOf name scope L a cd))
        (fun f s₄ => wpAny (model prog w) A (do bindName (envOf name scope L a cd) n .none; unbindBehindTheSuite (envOf name scope L a cd) n pos) (fun _ s₅ => Q f s₅) E s₄)
        (AsSuiteRaised (model prog w) (A.mark (some (.ref e))) (envOf name scope L a cd) n pos (notedBy (model prog w) (A.mark (some (.ref e))) (envOf name scope L a cd) (cameBackBy (model prog w) A (envOf name scope L a cd) E)))
        { s' with heap := h', toks := tk })
    (hk : scope.kind = .function := by rfl) (hlo : (envOf name scope L a cd).kindOf n = some .local := by rfl) :
    wpAny (model prog w) A (noteFrame (.ref e) (envOf name scope L a cd)) (fun _ s₂ => wpAny (model prog w) A (setFlight (.ref e) none) (fun _ s₃ =>
      wpAny (model prog w) A (handleBy (.ref e) (envOf name scope L a cd) (.ExceptHandler (some t) (some n) (b₀ :: suite) pos :: rest)) Q E s₃) E s₂) E s' := by
  refine note_next hfr rfl x fun h₁ x₁ u₁ => flight_off x₁ fun h₂ x₂ u₂ => ?_
  have F₂ := F.of_stays x₂.1.1 ((u.trans u₁).trans u₂)
  refine wpAny_handleBy_cons (codeAny_handlers_test (hev h₂ s'.toks _ _ F₂ fun tk' => ?_)) (by intro q; cases q)
  refine fault_cls_on (X.keeps x₂.1.1) fun nm q N bs bm hdct sn sub ab col dd k0 k1 k2 k3 k5 newId hC hbase => fly_on x₂ fun dE sl vs _ he _ => ?_
  refine wpAny_excMatches_sub_self hC he rfl hbase (codeAny_handlers_suite_as ?_)
  refine flight_off x₂ fun h₃ x₃ u₃ => ?_
  have F₃ := F₂.of_stays x₃.1.1 u₃
  clear he
  refine fly_on x₃ fun dE sl vs hst he hd => fd_on hd fun h1 h2 t1 t2 t3 v nn sl2 hdE => ?_
  refine stNK F₃ (News.nil (h₀ := g) (L := L)) (fun h₄ F₄ _ sb ns => ?_) hk hlo
  have eL : e ≠ L := fun q => by
    obtain ⟨oL, es, ep, hL, hLd, _, hLm⟩ := ns
    rw [q, hL] at he; cases he; cases hLd
  have dL : dE ≠ L := fun q => by
    obtain ⟨oL, es, ep, hL, hLd, _, hLm⟩ := ns
    rw [q, hL] at hdE
    cases hdE
    cases hLd
    have e9 : nsFind #[⟨h1, .str (Str.ofString "what") t1, v⟩, ⟨h2, .str (Str.ofString "at") t2, .int p t3⟩] (Str.ofString "octets") = none := by kernel_rfl
    have := hLm (Str.ofString "octets")
    rw [hm] at this
    exact absurd (e9.symm.trans this) (fun q => nomatch q)
  exact k h₄ _ _ h1 h2 t1 t2 t3 v nn sl2 F₄ ⟨sb.extBut _ _ eL he, rfl, rfl, sb.extBut _ _ dL hdE⟩
section
variable {prog : Program} {w : World} {A : Around} {E : Value → Shared → Prop} {hh : Heap} {gs : Array GenState} {dd : Drawn} {tt : Nat} {os : OsState} {e : Addr} {oe od : Obj} {v : Value} {K : Frag}
theorem at_entry {tk : Tok} {name : Str} {Q : Fin → Shared → Prop} (X : K.In hh) (I : InstAt hh e oe 52 (some od)) (hf : findObj K 52 (some od) name = some (.value v)) (hq : Q (.done (.ret v)) ⟨hh, gs, dd, tt, os⟩) :
    wpAny (model prog w) A (Builtin.«object.__getattribute__» ⟨[.ref e, .str name tk], []⟩) Q E ⟨hh, gs, dd, tt, os⟩ := by
  have L0 := I.type (M := model prog w)
  have L1 := looks_find (M := model prog w) X I hf
  show wpAny _ _ (typeOf (.ref e) >>= fun tp => Builtin.ObjectAttr.find (.ref e) tp name >>= fun r => _) _ _ _
  refine wpAny_bind (L0.at (wpAny_bind (L1.at ?_)))
  exact wpAny_pure hq
theorem at_check {nameV : Value} {Q : Unit → Shared → Prop} {M : Model} (X : (Mine.hd0.heap_1 w.params).In hh) (I : InstAt hh e oe 52 (some od)) (hq : Q () ⟨hh, gs, dd, tt, os⟩) : wpAny M A (checkBuiltinCall "BaseException.__getattribute__" ⟨[.ref e, nameV], []⟩) Q E ⟨hh, gs, dd, tt, os⟩ := by
  refine fault_cls_on X fun nm q N bs bm hdct sn sub ab col dd k0 k1 k2 k3 k5 newId hC hbase => ?_
  have hk : builtinKind "BaseException.__getattribute__" = some .slot := by decide +kernel
  have hsplit : splitId "BaseException.__getattribute__" = some ("BaseException", "__getattribute__") := by decide +kernel
  have hcB : (Value.ref 52 :: bm).contains (.type "BaseException") = true := by rw [List.contains_cons, hbase, Bool.or_true]
  have ha := F.args_bexc_ga (.ref e) nameV
  have hc := I.cls
  simp only [checkBuiltinCall, hk, hsplit]
  refine wpAny_bind ?_
  unfold isInstance
  repeat (first | (with_reducible refine wpAny_loadPart_at I.at_ ?_; rw [hc]) | (with_reducible refine wpAny_isSubtype_exc hC ?_; rw [hcB]) | wp_step)
  exact hq
theorem get_own_exc {name : Str} {p : Int} {t3 : Tok} {expr : Bool} {Q : Value → Shared → Prop} (X : (Mine.hd0.heap_1 w.params).In hh) (I : InstAt hh e oe 52 (some od)) (hf : findObj (Mine.hd0.heap_1 w.params) 52 (some od) name = some (.value (.int p t3))) (hq : Q (.int p t3) ⟨hh, gs, dd, tt + 1, os⟩) :
    wpAny (model prog w) A (getAttr (.ref e) name expr) Q E ⟨hh, gs, dd, tt, os⟩ := by
  have L0 := I.type (M := model prog w)
  have L1 := looks_findIn (M := model prog w) X (show findIn (Mine.hd0.heap_1 w.params) (.ref 52) "__getattribute__" = some (some (.builtin "BaseException.__getattribute__")) by kernel_rfl)
  have L2 := looks_findIn (M := model prog w) X (show findIn (Mine.hd0.heap_1 w.params) (.ref 52) "__getattr__" = some none by kernel_rfl)
  unfold getAttr getAttrBy
  refine wpAny_bind (wpAny_mkText (wpAny_holding (wpAny_bind (L0.at (wpAny_bind (L1.at ?_))))))
  have hx2 : (Value.builtin "BaseException.__getattribute__" == Value.builtin "object.__getattribute__") = false := by decide +kernel
  dsimp only
  rw [hx2, Bool.and_false, if_neg (by decide)]
  unfold getAttrByItsOwn
  refine wpAny_bind ?_
  unfold hookBefore
  rw [if_pos (by rfl)]
  refine L2.at ?_
  have f3 := F.attrBase_Exception.ga.bind (.ref e)
  have hx0 : (expr && onTheHeap (Value.builtin "BaseException.__getattribute__")) = false := by cases expr <;> rfl
  repeat (any_goals (first | assumption | wp_step))
  refine codeAny_call_builtin F.attrBase_Exception.ga.plain F.entry_bexc_ga (at_check X I (at_entry X I hf ?_))
  repeat (any_goals (first | assumption | wp_step))
  all_goals exact wpAny_pure hq
end
theorem get_at {prog : Program} {w : World} {A : Around} {E : Value → Shared → Prop} {s : Shared} {g : Heap} {L : Addr} {m : Str → Option Value} {e : Addr} {oe : Obj} {h1 h2 : Int} {t1 t2 t3 : Tok} {v : Value} {p : Int} {nn : Nat} {sl : Array (Option Value)} {expr : Bool} {Q : Value → Shared → Prop} (X : (Mine.hd0.heap_1 w.params).In g) (F : Fr g L s.heap m)
    (I : InstAt s.heap e oe 52 (some (faultO h1 h2 t1 t2 t3 v p nn sl))) (h : Q (.int p t3) { s with toks := s.toks + 1 }) : wpAny (model prog w) A (getAttr (.ref e) (Str.ofString "at") expr) Q E s :=
  get_own_exc (X.keeps F.keep) I (findObj_own (attr := none) (by kernel_rfl) (by kernel_rfl) rfl rfl) h


-- 49_law
theorem frames_ext {base g h : Heap} (hx : ∀ b, g.get? b = base.get? b) : ∀ {l : List Env}, h.FunFrames base l → h.FunFrames g l
  | [], _ => trivial
  | _ :: _, ⟨hk, ⟨L, o, hf, hn, ho, hd⟩, hr⟩ => ⟨hk, ⟨L, o, hf, (hx L).trans hn, ho, hd⟩, frames_ext hx hr⟩
/-- the entry into the law: what stands ahead of the call is the ground -/
theorem enter_top {prog : Program} {w : World} {A : Around} {s : Shared} {fr : List Env} {R : Result → Shared → Prop}
    {name qual : Str} {params : Arguments} {body : List Stmt} {scope : Scope} {dV kV doc pm cdv ct oc : Value} {an od : Option Addr} {osl : Array (Option Value)} {f : Addr} {pos : List Value} {kw : List (Str × Value)} {binds : List (Str × Value)} {n : Nat}
    (G : Gr w s.heap) (B : Below A s.heap fr s.heap) (hR : Room A (n + 1))
    (ho : (Mine.hd0.heap_1 w.params).lookup f = some ⟨oc, od, .func (fnOf name qual params body scope dV kV doc pm an cdv ct), osl⟩) (hcd : codeIn (Mine.hd0.heap_1 w.params) cdv qual = true)
    (hbind : BindsTo s (fnOf name qual params body scope dV kV doc pm an cdv ct) ⟨pos, kw⟩ binds) (hloc : ∀ y ∈ binds, scope.names.lookup y.1 = some .local)
    (h : ∀ g L' h₁ tk gn dr os ad af ag au, let A' : Around := ⟨none, ad, af, ag, au⟩; ∀ Q' E' p loose mean mg mb, Keep s.heap g → Gr w g → Fr g L' h₁ (fun y => binds.reverse.lookup y) → News g L' h₁ [] →
      Inside prog w A' g fr (envOf qual scope L' f cdv) g L' s gn dr os (fun v s' => R (.ok (.ret v)) s') (fun e s' => R (.error e) s') Q' E' → Room A' n → (Mine.hd0.heap_1 w.params).In g → Top p loose mean mg mb g →
      wpAny (model prog w) A' (execs body (envOf qual scope L' f cdv)) Q' E' ⟨h₁, gn, dr, tk, os⟩)
    (hcell : ∀ x ∈ scope.names, x.2 ≠ .cell) (hco : scope.isCoroutine = false) (hgen : scope.isGenerator = false) (hk : scope.kind = .function) :
    codeAny (model prog w) A (.call (.ref f) ⟨pos, kw⟩) R s := by
  obtain ⟨p, loose, mean, mg, mb, T⟩ := G.T
  obtain ⟨ahd, ad, af, ag, au⟩ := A
  obtain rfl : ahd = none := hR.2.2
  refine enter [] B G.X T (fun _ h => nomatch h) OffFrames.nil ho hcd hR.ok hbind hloc (fun g L' h₁ tk kb kk F N Bg Xg Tg => ?_) hcell hco hgen hk
  have hx : ∀ b, g.get? b = s.heap.get? b := fun b => by
    cases q : g.get? b with
    | none =>
      cases q2 : s.heap.get? b with
      | none => rfl
      | some o => rw [kb b o (by simp) q2] at q; cases q
    | some o => exact (kk b o q).symm
  have Bg : Below _ g fr g := ⟨Bg.stack, fun _ _ e => e, frames_ext hx Bg.frames⟩
  refine h g L' h₁ tk s.gens s.drawn s.os _ _ _ _ _ _ p loose mean mg mb kb.keep ⟨Xg, (hx _).trans G.Z, ⟨p, loose, mean, mg, mb, Tg⟩⟩ F N ⟨fun F' => Bg.push F' hk, fun q => q, fun q => q, fun F' x q => ?_, fun x q => ?_, PassesOwn.leaving⟩ hR.deeper Xg Tg
  · have B' := Bg.push (name := qual) (a := f) (cd := cdv) F' hk
    exact leave_first B'.stack B'.frames rfl B'.stays x fun h' x' u => q h' x' u
  · exact leave_next (Around.frames_deeper Bg.stack) rfl x fun h' x' u => q h' x' u
theorem nvals_at {zs : List (Nat × Tok)} {i : Nat} {v : Value} (ok : rowOk zs) (h : (nvals zs).toArray[i]? = some v) : ∃ (n : Nat) (t : Tok), n < 16 ∧ v = .int (n : Int) t := by
  rw [List.getElem?_toArray, nvals, List.getElem?_map] at h
  cases q : zs[i]? with
  | none => rw [q] at h; cases h
  | some x => rw [q] at h; cases h; exact ⟨_, _, ok.2.2 x (List.mem_of_getElem? q), rfl⟩
theorem bytes_of : ∀ {ys : List Value}, (∀ (i : Nat) (y : Value), ys[i]? = some y → ∃ b t, b.size ≤ 5 ∧ y = .bytes b t) → ∃ xs, ys = bvals xs ∧ small5 xs
  | [], _ => ⟨[], rfl, fun _ h => nomatch h⟩
  | y :: r, h => by
    obtain ⟨b, t, hb, rfl⟩ := h 0 y rfl
    obtain ⟨xs, rfl, hs⟩ := bytes_of (ys := r) fun i z hz => h (i + 1) z (by simpa using hz)
    exact ⟨(b, t) :: xs, rfl, fun x hx => (List.mem_cons.mp hx).elim (fun e => e ▸ hb) (hs x)⟩
structure StopTry : Prop where
  on : 1 + 1 = 2
structure StopEq : Prop where
  on : 1 + 1 = 2
noncomputable def ToldP (d : Array UInt8) (tv : Value) (f : Int) (lx : List (Addr × Obj)) : Prop :=
  (∃ q, addressesOf d = .error q ∧ tv = .none ∧ f = q) ∨ ∃ ps D ds n, addressesOf d = .ok ps ∧ tv = .ref D ∧ f = -1 ∧ (∀ x ∈ ds, DOk false x) ∧ ds.map (·.pl) = ps ∧ (D, listOf (refsD ds).toArray n) ∈ lx ∧ ∀ q ∈ ledD ds, q ∈ lx
theorem Inst2.now {h : Heap} {x C dx : Addr} {od : Obj} (I : Inst2 h x C dx od) : InstAt h x (instObj C dx) C (some od) := ⟨I.h1, rfl, rfl, I.h2⟩
local macro_rules | `(tactic| k_inst) => `(tactic| (refine Inst2.now (by assumption)))
local macro_rules | `(tactic| k_inst) => `(tactic| (with_reducible assumption))
theorem News.ins2 {g h h' : Heap} {L : Addr} {nx D : List (Addr × Obj)} {a b : Addr × Obj} {m : Str → Option Value} (F : Fr g L h m) (N : News g L h nx) (k : Keep h h') (n : NewIn h h' (a :: b :: D)) : News g L h' (a :: b :: (nx ++ D)) := fun q hq => by
  refine News.plusL F N k n q ?_
  rcases List.mem_cons.mp hq with rfl | hq
  · exact .head _
  · rcases List.mem_cons.mp hq with rfl | hq
    · exact .tail _ (.head _)
    · rcases List.mem_append.mp hq with hq | hq
      · exact List.mem_append_right _ hq
      · exact .tail _ (.tail _ (List.mem_append_left _ hq))
theorem nc_of {x : TkA} {xs : List TkA} (h : x ∈ xs.filter notComment) : x.tk.kind ≠ .comment := by
  have := (List.mem_filter.mp h).2
  simpa [notComment] using this
theorem setup_law0 : True := by
  k_with "m eqnil" => ((with_reducible rename StopEq => stop); refine Hold.mk ?_)
  k_with "m trap" => ((try dsimp only at u'); (try dsimp only); refine Hold.mk ?_)
  k_with "m call" => ((with_reducible show wpAny _ _ (call (Value.ref 151) _ _) _ _ _); (try dsimp only); k_extra "m names"; k_dflt (refine' c_told_mb G (Inside.below IN kF) (Room.less hR' (by k_extra "m om")) ?kI ?_); (case kI => assumption); intro x9 u09 u19 u29 u39 h' tk' kk' hn9 ho9; dsimp only at kk' hn9; have N' := News.cons1 kF kN (News.keepAll kN kk') hn9 ho9; have F' := Fr.keepAll kF kk'; clear kF kN; (try dsimp only))
  k_with "m call" => ((with_reducible show wpAny _ _ (call (Value.ref 177) _ _) _ _ _); (try dsimp only); k_extra "m names"; k_dflt (refine' c_told_gp G (Inside.below IN kF) (Room.less hR' (by k_extra "m om")) ?kI ?kl hes ?kd ?kn ?_); (case kI => assumption); (case kl => assumption); (case kd => assumption); (case kn => assumption); intro x9 t9 u09 u19 ds9 h' tk' okd9 hpd9 kk' nw9; dsimp only at kk' nw9; have N' := News.plusL kF kN kk' nw9; have F' := Fr.keepAll kF kk'; clear kF kN; (try dsimp only))
  k_with "m getat" => (k_extra "m names"; k_dflt (refine get_at X' kF (by assumption) ?_); (try dsimp only))
  k_with "m call" => ((with_reducible show wpAny _ _ (call (Value.ref 118) _ _) _ _ _); k_extra "m names"; refine c_tokens_of G (Inside.below IN kF) (Room.less hR' (by k_extra "m om")) hz ?_ ?_; rotate_left 1; (intro q hq e' h' tk' x' u'; k_extra "m trap"); rotate_right 1; (intro l9 xs9 n9 h' tk' hsp hxl hxb kk' hnew hoff; dsimp only at kk' hnew; have N' := News.plusL kF kN kk' hnew; have F' := Fr.keepAll kF kk'; (try simp only [List.nil_append, List.cons_append] at N'); clear kF kN kk'; (try dsimp only)))
  k_with "m sub" => (intro q9 hq9; repeat (first | exact hq9 | exact List.mem_append_left _ hq9 | exact List.mem_append_left _ (List.mem_append_left _ hq9) | refine List.Mem.tail _ ?_))
  k_with "m toks" => (exact TokL.newsF kN (by k_mem) (by k_extra "m sub"))
  k_with "m len" => ((with_reducible show wpAny _ _ (call (Value.builtin _) [Value.ref _]) _ _ _); k_extra "m names"; k_dflt (refine len_refsT (isList_of kN (by k_mem)) (by k_extra "m om") ?_); intro t9' tk9'; (try dsimp only))
  k_with "m len" => ((with_reducible show wpAny _ _ (call (Value.builtin _) [Value.ref _]) _ _ _); k_extra "m names"; k_dflt (refine len_bvals (isList_of kN (by k_mem)) (by k_extra "m om") ?_); intro t9' tk9'; (try dsimp only))
  k_with "m item" => ((with_reducible show wpAny _ _ (subscriptTail _ _ (Value.ref _) (Value.int _ _)) _ _ _); (try dsimp only); k_extra "m names"; k_dflt (refine item_tok (TokL.newsF kN (by k_mem) (by k_extra "m sub")) (by k_extra "m om") (by k_extra "m om") ?_); intro x9 hx9 hm9 hu9; (try dsimp only at hu9))
  k_with "m call" => ((with_reducible show wpAny _ _ (call (Value.ref 402) _ _) _ _ _); (try dsimp only); k_extra "m names"; k_dflt (refine' c_law_list (k := 0) (@l_place_outer prog w) (Nat.le_of_ble_eq_true rfl) G (Inside.below IN kF) (Room.less hR' (by k_extra "m om")) ?kT ?kx (Nat.zero_le _) hwz hnc ?_ ?_); (case kT => k_extra "m toks"); (case kx => k_extra "m om"); rotate_left 1; (intro q z9 hq a' t2' t3' h' tk' kk' hn ho; dsimp only at kk' hn; have N' := News.cons1 kF kN (News.keepAll kN kk') hn ho; have F' := Fr.keepAll kF kk'; clear kF kN hn ho kk'; (try dsimp only)); rotate_right 1; (intro p9 j9 ho9 hj9 hk9 hpl9 a9 lo9 ds9 ep9 t2' t3' h' tk' ok9 hp9 kk' nw9; dsimp only at kk' nw9; have N' := News.ins2 kF kN kk' nw9; have F' := Fr.keepAll kF kk'; (try simp only [List.nil_append, List.cons_append] at N'); clear kF kN kk'; (try dsimp only)))
  k_with "m entert" => (w_top off; k_dflt (refine' enter_top (binds := ?kbinds) ?kG ?k1 ?kR ?k6 ?k7 ?k9 ?kB ?_ ?c5 ?c2 ?c3 ?c4; (case k6 => k_is); (case k7 => k_is); (case k1 => k_asm); (case kG => k_asm); (case kR => exact hR); (case c5 => decide); (case c2 => exact rfl); (case c3 => exact rfl); (case c4 => exact rfl)))
  k_with "m item" => ((with_reducible show wpAny _ _ (subscriptTail _ _ (Value.ref _) (Value.int _ _)) _ _ _); (try dsimp only); k_extra "m names"; k_dflt (refine item_b (isList_of kN (by k_mem)) (by k_extra "m om") (by k_extra "m om") ?_); intro b9 tb9 hb9; (try dsimp only))
  k_with "m item" => ((with_reducible show wpAny _ _ (subscriptTail _ _ (Value.ref 322) (Value.int _ _)) _ _ _); (try dsimp only); k_extra "m names"; k_dflt (refine item_row (Frag.In.keeps X' (Fr.keep kF)) (by k_extra "m om") ?_); intro a9 zr9 hok9 hrow9; (try dsimp only))
  k_with "m item" => ((with_reducible show wpAny _ _ (subscriptTail _ _ (Value.ref 316) (Value.int _ _)) _ _ _); (try dsimp only); k_extra "m names"; k_dflt (refine item_piece (Frag.In.keeps X' (Fr.keep kF)) (by k_extra "m om") ?_); intro b9 tb9 hb9; (try dsimp only))
  k_with "m item" => ((with_reducible show wpAny _ _ (subscriptTail _ _ (Value.ref _) (Value.int _ _)) _ _ _); k_dflt (first
    | refine item_tupleL (by assumption) (by first | decide | omega) (by first | decide | omega) (by first | rfl | decide) (by first | rfl | simp) ?_
    | (refine kba_turn (value' := PySem.Expr.Name (PySem.Str.ofString "_") ⟨0, 0, 0, 0⟩) (fun _ => rfl) ?_; refine item_tupleL (by assumption) (by first | decide | omega) (by first | decide | omega) (by first | rfl | decide) (by first | rfl | simp) ?_)))
  trivial
section
variable {prog : Program} {w : World}
  {A : Around} {fr : List Env} {s : Shared} {R : Result → Shared → Prop}
theorem c_law {l : Addr} {ns : List (Int × Tok)} (G : Gr w s.heap) (B : Below A s.heap fr s.heap) (hR : Room A 25) (hl : s.heap.IsList l (ivals ns).toArray) (hlsn : ns.length ≤ 100)
  (hret : ∀ h' tk', Keep s.heap h' → R (.ok (.ret (.bool true))) { s with heap := h', toks := tk' }) :
  codeAny (model prog w) A (.call (.ref 407) ⟨[.ref l], []⟩) R s := by
  k_extra "m entert"
  case kbinds => exact [("script", .ref l)]
  case k9 => exact BindsTo.of_eq rfl
  case kB => exact locs rfl
  intro g L' h₁ tk₁ gn dr os ad af ag au A' Q' E' p loose mean mg mb kk0 G' F' N' IN hR' X' T'
  have hls' : _ := IsList.keep2 hl kk0
  clear hR B G hl
  have G := G'
  clear G'
  dsimp only [List.reverse, List.reverseAux] at F'
  have stopI : StopIf := ⟨rfl⟩
  have stopC : StopComp := ⟨rfl⟩
  k_steps
  refine Hold.go (cutAt (σ := Addr × List (Array UInt8 × Tok) × Nat) (by assumption) (fun c => [(c.1, PySem.W.listOf (bvals c.2.1).toArray c.2.2)]) (fun c => [("pieces", .ref c.1)]) (fun v c => v = .next ∧ c.2.1.length ≤ 40 ∧ small5 c.2.1) ?_ ?_)
  · (rename StopIf => st0; clear st0)
    k_steps
    · refine Hold.go (For_turns (by assumption) ?_ (by intro _; rfl) (Inside.pass IN))
      k_steps
      have hd15 : d9 ≤ 15 := by omega
      refine Hold.go (iter_rangeTurns (n := d9) rfl (by assumption) (by omega) (by assumption) (by assumption) fun I hI => ?_)
      refine for_rest (σ := Nat × Int × Int × Nat × PT × Nat × List (Array UInt8 × Tok) × Nat) (fun c => [(l', PySem.W.listOf (bvals c.2.2.2.2.2.2.1).toArray c.2.2.2.2.2.2.2), (po, poolO c9 c.2.1 c.2.2.1 c.2.2.2.1 c.2.2.2.2.1 c.2.2.2.2.2.1), (c9, PySem.W.listOf (ivals zs9).toArray n9)]) (fun c => [("pieces", .ref l'), ("pool", .ref po)])
        (fun rr c => rr = (rangeItems d9).drop c.1 ∧ c.1 ≤ d9 ∧ 0 ≤ c.2.1 ∧ 0 ≤ c.2.2.1 ∧ c.2.2.1 < 2147483647 ∧ c.2.2.2.1 ≤ 10 + c.1 ∧ c.2.2.2.2.2.2.1.length ≤ c.1 ∧ small5 c.2.2.2.2.2.2.1)
        I "range_iterator" [] (fun c => trivial) (fun c p hp => by
          rcases List.mem_cons.mp hp with rfl | hp
          · exact list_cls2 (by decide)
          · rcases List.mem_cons.mp hp with rfl | hp
            · exact list_cls2 (by decide)
            · rw [List.mem_singleton.mp hp]; exact list_cls2 (by decide)) ?_ ?_ _ (0, g9, st9, 0 + 1 + 1, T9, ep9, [], 0) _ _ ⟨rfl, Nat.zero_le _, by assumption, by assumption, by assumption, by dsimp only; omega, Nat.zero_le _, fun _ h => nomatch h⟩ ⟨rfl, rfl, trivial⟩ (fun p hp => by exact hp)
      · have hIl : @Ne Nat I l' := Nat.ne_of_gt (hI _ (by k_mem : (l', _) ∈ _))
        have hIp : @Ne Nat I po := Nat.ne_of_gt (hI _ (by k_mem : (po, _) ∈ _))
        have hIc : @Ne Nat I c9 := Nat.ne_of_gt (hI _ (by k_mem : (c9, _) ∈ _))
        refine fun a rr => pr8 fun i gi si ki Ti ei xs ex u₁ h tk v o => an8 fun hr hp1 hp2 hp3 hp4 hp5 hp6 hp7 hv F' N' => ?_
        dsimp only at hr hp1 hp2 hp3 hp4 hp5 hp6 hp7 F' N'
        obtain ⟨hil, rfl, hrr⟩ := range_item hr
        obtain ⟨ti, rfl⟩ := hv
        (try dsimp only)
        k_steps
        k_extra "m turn"
        rename News _ _ _ _ => N9
        rw [bvals_push] at N9
        exact FEnd.intro (i + 1, g9, st9, ki + 1, T9, ep9, xs ++ [(b9, tb9)], ex + 1) (by assumption) N9 (.head _) (fun p hp => .tail _ hp) ⟨hrr, by dsimp only; omega, by assumption, by assumption, by assumption, by dsimp only; omega, by rw [List.length_append]; dsimp only [List.length]; omega, small5_app hp7 (small5_one hb9)⟩ ⟨rfl, rfl, trivial⟩
      · refine pr8 fun i gi si ki Ti ei xs ex u₁ h tk => an8 fun hr hp1 hp2 hp3 hp4 hp5 hp6 hp7 F' N' => ?_
        dsimp only at hr hp1 hp2 hp3 hp4 hp5 hp6 hp7 F' N'
        (try dsimp only)
        k_steps
        exact Cut.intro (l', xs, ex) (by assumption) (by assumption) ⟨rfl, by dsimp only; omega, hp7⟩ (fun p hp => by rw [List.mem_singleton.mp hp]; exact .head _) ⟨rfl, trivial⟩
    · refine Hold.go ?_
      k_dflt (refine asg_tup (by k_asm) (by rfl) (by with_unfolding_all rfl) (by with_unfolding_all rfl) (by decide) (by rfl) (by decide) (by rfl) (by rfl) (by rfl) ?_)
      k_steps
      refine SrcTp.mk rfl (by assumption) (by assumption) (hrow9 _ X') (by simp [nvals, sizeLine_eq]; have := hok9.2.1; omega) ?_
      intro g'
      refine rest_U (R := fun i y => ∃ b t, b.size ≤ 5 ∧ y = .bytes b t) _ ?_ trivial ?_
      · intro i v hi hv I oI C oC D oD m₂ h tk E'' hC hx F N
        obtain ⟨nz, t, hn16, rfl⟩ := nvals_at hok9 hv
        (try dsimp only)
        k_steps
        · exact hb9
        all_goals assumption
      · intro ys hyl hy
        obtain ⟨xs0, rfl, hx0⟩ := bytes_of hy
        have hxl0 : 0 < xs0.length ∧ xs0.length ≤ 11 := by
          have h1 := hok9.1
          have h2 := hok9.2.1
          simp [bvals, nvals] at hyl
          omega
        unfold LCg.FinA
        intro D h tk F N off
        simp only [LCg.Off1, and_true] at off
        dsimp only
        k_steps
        refine Hold.go (For_turns (by assumption) ?_ (by intro _; rfl) (Inside.pass IN))
        k_steps
        have hd15 : d9 ≤ 3 := by omega
        refine Hold.go (iter_rangeTurns (n := d9) rfl (by assumption) (by omega) (by assumption) (by assumption) fun I hI => ?_)
        refine for_rest (σ := Nat × Int × Int × Nat × PT × Nat × List (Array UInt8 × Tok) × Nat) (fun c => [(D, PySem.W.listOf (bvals c.2.2.2.2.2.2.1).toArray c.2.2.2.2.2.2.2), (po, poolO c9 c.2.1 c.2.2.1 c.2.2.2.1 c.2.2.2.2.1 c.2.2.2.2.2.1), (c9, PySem.W.listOf (ivals zs9).toArray n9)]) (fun c => [("pieces", .ref D), ("pool", .ref po)])
          (fun rr c => rr = (rangeItems d9).drop c.1 ∧ c.1 ≤ d9 ∧ 0 ≤ c.2.1 ∧ 0 ≤ c.2.2.1 ∧ c.2.2.1 < 2147483647 ∧ c.2.2.2.1 ≤ 10 + 3 * c.1 ∧ 0 < c.2.2.2.2.2.2.1.length ∧ c.2.2.2.2.2.2.1.length ≤ 11 + c.1 ∧ small5 c.2.2.2.2.2.2.1)
          I "range_iterator" [] (fun c => trivial) (fun c p hp => by
            rcases List.mem_cons.mp hp with rfl | hp
            · exact list_cls2 (by decide)
            · rcases List.mem_cons.mp hp with rfl | hp
              · exact list_cls2 (by decide)
              · rw [List.mem_singleton.mp hp]; exact list_cls2 (by decide)) ?_ ?_ _ (0, g9, st9, 0 + 1 + 1 + 1, T9, ep9, xs0, (bvals xs0).length) _ _ ⟨rfl, Nat.zero_le _, by assumption, by assumption, by assumption, by dsimp only; omega, hxl0.1, hxl0.2, hx0⟩ ⟨rfl, rfl, trivial⟩ (fun p hp => (List.mem_cons.mp hp).elim (fun e => e ▸ .head _) fun hp => .tail _ (.tail _ hp))
        · have hIl : @Ne Nat I D := Nat.ne_of_gt (hI _ (by k_mem : (D, _) ∈ _))
          have hIp : @Ne Nat I po := Nat.ne_of_gt (hI _ (by k_mem : (po, _) ∈ _))
          have hIc : @Ne Nat I c9 := Nat.ne_of_gt (hI _ (by k_mem : (c9, _) ∈ _))
          refine fun a rr => pr8 fun i gi si ki Ti ei xs ex u₁ h tk v o => an9 fun hr hp1 hp2 hp3 hp4 hp5 hp6 hp7 hp8 hv F' N' => ?_
          dsimp only at hr hp1 hp2 hp3 hp4 hp5 hp6 hp7 hp8 F' N'
          obtain ⟨hil, rfl, hrr⟩ := range_item hr
          obtain ⟨ti, rfl⟩ := hv
          (try dsimp only)
          k_steps
          · k_extra "m turn"
            exact FEnd.intro (i + 1, g9, st9, ki + 1 + 1 + 1, T9, ep9, insL xs _ (b9, tb9), ex + 1) (by assumption) (by assumption) (.head _) (fun p hp => .tail _ hp) ⟨hrr, by dsimp only; omega, by assumption, by assumption, by assumption, by dsimp only; omega, by dsimp only; rw [insL_len]; omega, by dsimp only; rw [insL_len]; omega, insL_small hp8 hb9⟩ ⟨rfl, rfl, trivial⟩
          · k_extra "m turn"
            refine FEnd.intro (i + 1, g9, st9, ki + 1 + 1, T9, ep9, xs.take _ ++ xs.drop (_ + 1), ex + 1) (by assumption) (by assumption) (.head _) (fun p hp => .tail _ hp) ⟨hrr, by dsimp only; omega, by assumption, by assumption, by assumption, by dsimp only; omega, ?_, ?_, ?_⟩ ⟨rfl, rfl, trivial⟩
            · dsimp only; rw [List.length_append, List.length_take, List.length_drop]; omega
            · dsimp only; rw [List.length_append, List.length_take, List.length_drop]; omega
            · exact small5_app (fun x hx => hp8 x (List.mem_of_mem_take hx)) (fun x hx => hp8 x (List.mem_of_mem_drop hx))
          all_goals
            k_extra "m turn"
            have hb5 : b9.size ≤ 5 := hp8 _ hb9
            exact FEnd.intro (i + 1, g9, st9, ki + 1 + 1, T9, ep9, insL xs _ (b9, tb9), ex + 1) (by assumption) (by assumption) (.head _) (fun p hp => .tail _ hp) ⟨hrr, by dsimp only; omega, by assumption, by assumption, by assumption, by dsimp only; omega, by dsimp only; rw [insL_len]; omega, by dsimp only; rw [insL_len]; omega, insL_small hp8 hb5⟩ ⟨rfl, rfl, trivial⟩
        · refine pr8 fun i gi si ki Ti ei xs ex u₁ h tk => an9 fun hr hp1 hp2 hp3 hp4 hp5 hp6 hp7 hp8 F' N' => ?_
          dsimp only at hr hp1 hp2 hp3 hp4 hp5 hp6 hp7 hp8 F' N'
          (try dsimp only)
          k_steps
          exact Cut.intro (D, xs, ex) (by assumption) (by assumption) ⟨rfl, by dsimp only; omega, hp8⟩ (fun p hp => by rw [List.mem_singleton.mp hp]; exact .head _) ⟨rfl, trivial⟩
  refine fun _ => pr3 fun pc xs ep u₁ h' tk' => an3 fun e9 hxl hx5 F' N' => ?_
  subst e9
  (try dsimp only at hxl hx5 F' N' ⊢)
  (rename StopIf => st0; clear st0)
  have hfl := flat_small hx5
  have stopT : StopTry := ⟨rfl⟩
  k_steps
  generalize hd9 : flat xs = d at *
  have hz : d.size ≤ 999 := by omega
  clear hd9
  refine Hold.go (cutAt (σ := Value × Int × Tok × List (Addr × Obj) × Tok) (by assumption) (fun c => c.2.2.2.1) (fun c => [("fault", .int c.2.1 c.2.2.1), ("told", c.1), ("octets", .bytes d c.2.2.2.2)]) (fun v c => v = .next ∧ ToldP d c.1 c.2.1 c.2.2.2.1) ?_ ?_)
  · (rename StopTry => st0; clear st0)
    k_steps
    refine Hold.go ?_
    k_dflt (refine LCg.Assign_ListComp_U (F₀ := by k_asm) (by rfl) (by with_unfolding_all rfl) (by with_unfolding_all rfl) (by decide) (by rfl) (by decide) (by rfl) (by rfl) (by rfl) ?_)
    k_steps
    · refine Hold.go (LCg.CompSrc.ledger rfl (by assumption) (by assumption) (.tail _ (.head _)) (refsE_size (by omega)) ?_)
      intro g'
      refine rest_D (b := false) es9 ?_ (.inr ⟨_, .tail _ (.head _), rfl, _, rfl⟩) (fun _ _ h => h.elim .inl fun ⟨o, hm, r⟩ => .inr ⟨o, List.mem_append_left _ hm, r⟩) ?_
      · intro e he I oI C oC D oD m₂ h tk nw' E'' hC hx F N hsub
        have hle : ∀ q ∈ e.led, h.get? q.1 = some q.2 := fun q hq => (N _ (.tail _ (.tail _ (.tail _ (hsub _ (.tail _ (.tail _ (List.mem_flatMap.mpr ⟨e, he, hq⟩)))))))).1
        clear hsub hnew
        cases ok9 e he with
        | mb m md a1 b1 c1 T1 hne1 =>
          have I' : Inst2 h m 154 md (mbDict w.params a1 b1 c1 T1) := ⟨hle _ (.head _), hle _ (.tail _ (.head _))⟩
          (try dsimp only)
          k_steps
          exact DEnd.intro ⟨x9, .mb a1 b1 c1, [(x9, mbT a1 b1 c1 u09 u19 u29 u39)]⟩ (.mb ..) rfl (by assumption) (by assumption) (fun q hq => .tail _ hq) (newIn_one hn9 ho9)
        | gp g1 gd l1 a1 T1 ep1 es1 ms hes hms hlen =>
          have I' : Inst2 h g1 180 gd (gpDict w.params a1 l1 T1) := ⟨hle _ (.head _), hle _ (.tail _ (.head _))⟩
          have hli : h.IsList l1 (refsE es1).toArray := ⟨_, hle _ (.tail _ (.tail _ (.head _))), rfl, _, rfl⟩
          have hld : ∀ q ∈ ledE es1, h.get? q.1 = some q.2 := fun q hq => hle q (.tail _ (.tail _ (.tail _ hq)))
          (try dsimp only)
          k_steps
          exact DEnd.intro ⟨x9, .gp a1 ms, (x9, gpT a1 t9 u09 u19) :: (t9, tupO (refsD ds9)) :: ledD ds9⟩ (.gp x9 t9 a1 u09 u19 ds9 ms okd9 (hpd9.trans hms)) rfl (by assumption) (by assumption) (fun q hq => List.mem_append_right _ hq) nw9
      · intro ds hds hpl
        unfold LCg.FinA
        intro D h tk F N off
        dsimp only
        k_steps
        exact Cut.intro (.ref D, -1, _, _, _) (by assumption) (by assumption) ⟨rfl, .inr ⟨ps9, D, ds, _, hps9, rfl, rfl, hds, hpl.trans hp9, .head _, fun q hq => .tail _ (List.mem_append_right _ hq)⟩⟩ (fun p hp => hp) ⟨rfl, rfl, rfl, trivial⟩
    · refine Hold.go ?_
      refine catch_fault X' (Below.stack (Inside.below IN kF)) kF rfl (fun b o e hd => u' b o (fun h => nomatch h) e hd) x' ?_ ?_
      · intro h' tk Q9 E9 F9 hq9
        have N9 : News g L' h' [] := News.nil
        k_steps
        exact hq9 _
      · intro h' tk oe h1 h2 t1 t2 t3 v nn sl F' I9
        have N' : News g L' h' [] := News.nil
        dsimp only
        k_steps
        exact Cut.intro (.none, q, _, [], _) (by assumption) (by assumption) ⟨rfl, .inl ⟨q, hq, rfl, rfl⟩⟩ (fun _ h => nomatch h) ⟨rfl, rfl, rfl, trivial⟩
  refine fun _ => pr5 fun tv ft tft lx to9 u₁ h' tk' => an2 fun e9 htold F' N' => ?_
  subst e9
  (try dsimp only at htold F' N' ⊢)
  (rename StopTry => st0; clear st0)
  k_steps
  refine Hold.go ?_
  k_dflt (refine LCt.Assign_ListComp_T (F₀ := by k_asm) (by rfl) (by with_unfolding_all rfl) (by with_unfolding_all rfl) (by decide) (by rfl) (by decide) (by rfl) (by rfl) (by rfl) ?_)
  k_steps
  · refine Hold.go (LCt.CompSrcT.ledger rfl (by assumption) (by assumption) (.head _) (refsT_size (by omega)) ?_)
    intro g'
    refine rest_T (fun x : TkA => .ref x.addr) (fun x => .ref x.addr) notComment xs9 ?_ ?_ (.inr ⟨_, .head _, rfl, _, rfl⟩) ?_
    · intro a ha I oI C oC D oD m₂ h tk E'' hC hx F N
      have hT := tok_tup (x := a) (N _ (.tail _ (.tail _ (.tail _ (.tail _ (List.mem_append_left _ (List.mem_map.mpr ⟨a, ha, rfl⟩))))))).1
      (try dsimp only)
      k_steps
      · exact kd_ne a.tk.kind
      all_goals assumption
    · intro a ha I oI C oC D oD m₂ h tk E'' hC hx F N
      (try dsimp only)
      k_steps
      all_goals assumption
    · unfold LCg.FinA
      intro D h tk F N off
      dsimp only
      have hxf := List.length_filter_le notComment xs9
      have hwz := fun (x : TkA) (hx : x ∈ xs9.filter notComment) => (⟨by have := hxb x (List.mem_filter.mp hx).1; omega, by have := hxb x (List.mem_filter.mp hx).1; omega⟩ : x.tk.worth.size ≤ 999 ∧ x.tk.place ≤ 999)
      have hnc := fun (x : TkA) (hx : x ∈ xs9.filter notComment) => (nc_of hx : x.tk.kind ≠ .comment)
      have hA : addressesOf d = (match listOfPl (outerP ((xs9.filter notComment).map (·.tk)) d.size) ((xs9.filter notComment).map (·.tk)) d.size 0 with
        | .error q => .error q
        | .ok (ps, j) => if j < ((xs9.filter notComment).map (·.tk)).length then .error (placeAt ((xs9.filter notComment).map (·.tk)) j d.size) else .ok ps) := by
        rw [addressesOf, hsp]
        dsimp only
        rw [← filter_tk]
        all_goals rfl
      have stopQ : StopEq := ⟨rfl⟩
      k_steps
      · rw [ho9] at hA
        dsimp only at hA
        rw [len_tk, if_pos (by omega), placeAt_some hx9] at hA
        rcases htold with ⟨q', h1, rfl, rfl⟩ | ⟨ps, _, _, _, h1, _⟩
        · rw [hA] at h1
          cases h1
          k_steps
          dsimp only
          k_extra "m out"
          simp only [beq_self_eq_true]
          exact hret _ _ (Keep.trans kk0 (Fr.keep (by assumption)))
        · rw [hA] at h1; cases h1
      · rw [ho9] at hA
        dsimp only at hA
        rw [len_tk, if_neg (by omega)] at hA
        rcases htold with ⟨q', h1, _⟩ | ⟨ps, D', ds', n', h1, rfl, _, okd, hpd, hmD, hmL⟩
        · rw [hA] at h1; cases h1
        · rw [hA] at h1
          cases h1
          refine Hold.go ?_
          k_extra "m names"
          refine eq_told (ds := ds') (ds' := ds9) (News.isList kN (.tail _ (.tail _ (.tail _ (.tail _ (List.mem_append_left _ (List.mem_append_right _ hmD))))))) (News.isList kN (.tail _ (.head _))) okd ok9 (hpd.trans hp9.symm)
            (fun q hq => (kN _ (.tail _ (.tail _ (.tail _ (.tail _ (List.mem_append_left _ (List.mem_append_right _ (hmL q hq)))))))).1) (fun q hq => (kN _ (.tail _ (.tail _ (.tail _ (.tail _ (List.mem_append_right _ hq)))))).1) (by have hru := hR'.2.1; refine Nat.lt_of_le_of_lt (m := 1000) (by (try dsimp only at hru ⊢); omega) ?_; decide) ?_
          (try dsimp only)
          k_extra "m out"
          exact hret _ _ (Keep.trans kk0 (Fr.keep (by assumption)))
      · rw [hq] at hA
        rcases htold with ⟨q', h1, rfl, rfl⟩ | ⟨ps, _, _, _, h1, _⟩
        · rw [hA] at h1
          cases h1
          k_steps
          dsimp only
          k_extra "m out"
          simp only [beq_self_eq_true]
          exact hret _ _ (Keep.trans kk0 (Fr.keep (by assumption)))
        · rw [hA] at h1; cases h1
  · have ha : addressesOf d = .error q := by rw [addressesOf, hq]
    rcases htold with ⟨q', h1, rfl, rfl⟩ | ⟨ps, _, _, _, h1, _⟩
    · rw [ha] at h1
      cases h1
      refine Hold.go ?_
      refine catch_fault X' (Below.stack (Inside.below IN kF)) kF rfl (fun b o e hd => u' b o (fun h => nomatch h) e hd) x' ?_ ?_
      · intro h' tk Q9 E9 F9 hq9
        have N9 : News g L' h' [] := News.nil
        k_steps
        exact hq9 _
      · intro h' tk oe h1 h2 t1 t2 t3 v nn sl F' I9
        have N' : News g L' h' [] := News.nil
        dsimp only
        k_steps
        k_extra "m out"
        rw [show (ft == ft) = true from by simp]
        exact hret _ _ (Keep.trans kk0 (Fr.keep (by assumption)))
    · rw [ha] at h1; cases h1
end


-- 50_tail
/-- the written part, and the table of the built-in names -/
noncomputable def k2 (P : Params) : Frag := (0, boot_o_0 P) :: Mine.hd0.heap_1 P
theorem k2_in {w : World} {h : Heap} (X : (k2 w.params).In h) : (Mine.hd0.heap_1 w.params).In h ∧ h.get? (nat_lit 0) = some (boot_o_0 w.params) := by
  have e0 : (Mine.hd0.heap_1 w.params).lookup 0 = none := by kernel_rfl
  refine ⟨fun a o e => X a o ?_, X 0 _ (by unfold k2; rfl)⟩
  by_cases h0 : a = 0
  · subst h0; rw [e0] at e; cases e
  · unfold k2
    rw [List.lookup_cons, beq_eq_false_iff_ne.mpr h0]
    exact e
theorem ints_ivals : ∀ {vs : List Value} {ns : List Int}, IntsAre vs ns → ∃ zs : List (Int × Tok), vs = ivals zs ∧ zs.length = ns.length
  | _, _, .nil => ⟨[], rfl, rfl⟩
  | _, _, .cons n t h => by
    obtain ⟨zs, rfl, e⟩ := ints_ivals h
    exact ⟨(n, t) :: zs, rfl, by simp [e]⟩
theorem law_top {prog : Program} {w : World} {s : Shared} {l : Addr} {vs : List Value} {ns : List Int} {R : Result → Shared → Prop} {p : Program} {loose : List Str} {mean : ExcName → Option Value} {mg mb : Str → Option Value}
    (X : (k2 w.params).In s.heap) (T : Top p loose mean mg mb s.heap) (hl : s.heap.IsList l vs.toArray) (hi : IntsAre vs ns) (hn : ns.length ≤ 63)
    (hret : ∀ h' tk', Keep s.heap h' → R (.ok (.ret (.bool true))) { s with heap := h', toks := tk' }) : codeAny (model prog w) callerA (.call (.ref 407) ⟨[.ref l], []⟩) R s := by
  obtain ⟨zs, rfl, e⟩ := ints_ivals hi
  exact c_law ⟨(k2_in X).1, (k2_in X).2, ⟨p, loose, mean, mg, mb, T⟩⟩ (below_caller (Top.heap T)) ⟨by decide, by decide, rfl⟩ hl (by omega) hret
theorem good_true {ns : List Int} {cl : Str → Option Addr} {mean : ExcName → Option Value} {s₁ : Shared} {h' : Heap} {tk' : Nat} (hk : Keep s₁.heap h') (hg : s₁.gens = #[]) :
    GoodW PySem.Challenge.rw_no0375_01.row.claim cl mean [ofPy (PyData.list (List.map PyData.int ns))] s₁ (.ok (.ret (.bool true))) { s₁ with heap := h', toks := tk' } :=
  ⟨.inl ⟨.bool true, .bool true, [], rfl, fun _ => rfl, .bool true, by kernel_rfl, unshared_nil⟩, hk, rfl, hg⟩


theorem hd.tw15265414499548499490 : True := trivial
theorem hd.tw1903866087469309809 : True := trivial
theorem hd.tw6896469178606551848 : True := trivial
theorem hd.tw2225492998660141991 : True := trivial
theorem hd.tw4521311704260346916 : True := trivial
theorem hd.tw12038256508788140161 : True := trivial
theorem hd.tw8071622481548722988 : True := trivial
theorem hd.tw12507593775071373291 : True := trivial
theorem hd.tw11041590408114104254 : True := trivial
theorem hd.tw13409513249864510019 : True := trivial
theorem hd.tw4585743438046781466 : True := trivial
theorem hd.tw15347494238783688032 : True := trivial
theorem hd.tw2782273408667855022 : True := trivial
theorem hd.tw4218054939716304509 : True := trivial
theorem hd.tw16373617888887144113 : True := trivial
theorem law.tw16373617888887144113 : True := trivial
theorem hd.tw17420951861521290806 : True := trivial
theorem hd.tw9427301549700849589 : True := trivial
theorem hd.tw10678649693572172417 : True := trivial
theorem hd.tw758273949599710562 : True := trivial
theorem hd.tw1409312971732116557 : True := trivial
theorem hd.tw8934143017859847078 : True := trivial
theorem hd.tw17864922044353613605 : True := trivial
theorem hd.tw6990203504111849199 : True := trivial
theorem hd.tw5961118342813265553 : True := trivial
theorem hd.tw17711083657039698284 : True := trivial
theorem hd.tw17447410573909459338 : True := trivial
theorem hd.tw14892549342360969540 : True := trivial
theorem hd.tw5130813555471234732 : True := trivial
theorem hd.tw1847840615245081061 : True := trivial
theorem hd.tw7752767780024739350 : True := trivial
theorem hd.tw8671608845466749128 : True := trivial
theorem hd.tw2114630138375439770 : True := trivial
theorem hd.tw12050417470231563642 : True := trivial
theorem hd.tw6060742912462422084 : True := trivial
theorem hd.tw3795277891434052102 : True := trivial
theorem hd.tw7120233287515763914 : True := trivial
theorem hd.tw4115565904173853331 : True := trivial
theorem hd.tw13330244855972007585 : True := trivial
theorem hd.tw5635641802508607975 : True := trivial
theorem hd.tw13903934854276604550 : True := trivial
theorem hd.tw212345690472687942 : True := trivial
theorem hd.tw18291419657060728153 : True := trivial
theorem hd.tw922143313871775805 : True := trivial
theorem hd.tw12629568148972539762 : True := trivial
theorem hd.tw5363564295841288755 : True := trivial
theorem hd.tw12963625248745546125 : True := trivial
theorem hd.tw10938747861014524180 : True := trivial
theorem hd.tw4297731678662094536 : True := trivial
theorem hd.tw17673860158736603733 : True := trivial
theorem hd.tw16299908979028503884 : True := trivial
theorem hd.tw5416991563250132298 : True := trivial
theorem hd.tw5511420028821071320 : True := trivial
theorem hd.tw11319097763535126812 : True := trivial
theorem hd.tw7754304195085646258 : True := trivial
theorem hd.tw12271959270614036898 : True := trivial
theorem hd.tw12399718760709695909 : True := trivial
theorem hd.tw3915529967508079626 : True := trivial
theorem hd.tw3442329435671937591 : True := trivial
theorem hd.tw6184460063843016694 : True := trivial
theorem hd.tw10258225898301398825 : True := trivial
theorem hd.tw4993660671451451078 : True := trivial
theorem hd.tw3008623586974134963 : True := trivial
theorem hd.tw8727321023445011275 : True := trivial
theorem hd.tw13181700845877081190 : True := trivial
theorem hd.tw16091413853298234908 : True := trivial
theorem hd.tw10583446816852156582 : True := trivial
theorem hd.tw15368132723985388332 : True := trivial
theorem hd.tw6528754448969337418 : True := trivial
theorem hd.tw12647368939536790636 : True := trivial
theorem hd.tw5902613922787404954 : True := trivial
theorem hd.tw14353793391729792155 : True := trivial
theorem hd.tw7296583596125217682 : True := trivial
theorem hd.tw9345676750909349944 : True := trivial
theorem hd.tw8228950375871286339 : True := trivial
theorem hd.tw17213754286329925777 : True := trivial
theorem hd.tw11631947586910100387 : True := trivial
theorem hd.tw17599816209265215132 : True := trivial
theorem hd.tw16970440968685349367 : True := trivial
theorem hd.tw10145344219372386046 : True := trivial
theorem hd.tw402640490398009360 : True := trivial
theorem hd.tw13181220554201973888 : True := trivial
theorem hd.tw1241404454085649124 : True := trivial
theorem hd.tw1129884963351977449 : True := trivial
theorem hd.tw3493717111155160527 : True := trivial
theorem hd.tw4315991029959535628 : True := trivial
theorem hd.tw14955159897011116063 : True := trivial
theorem hd.tw11465210709893060100 : True := trivial
theorem hd.tw8832402302947667407 : True := trivial
theorem hd.tw16007149819294483003 : True := trivial
theorem hd.tw5978321128707920903 : True := trivial
theorem hd.tw5562173858411828344 : True := trivial
theorem hd.tw9386895884608548742 : True := trivial
theorem hd.tw16828841361933241965 : True := trivial
theorem hd.tw14400467628812073631 : True := trivial
theorem hd.tw11513968764499736323 : True := trivial
theorem hd.tw17948085552500728524 : True := trivial
theorem hd.tw14560493823538711346 : True := trivial
theorem hd.tw15967140613478806237 : True := trivial
theorem hd.tw5559951931751713254 : True := trivial
theorem hd.tw10784824025267889561 : True := trivial
theorem hd.tw18219297243305740317 : True := trivial
theorem hd.tw15642763164714097627 : True := trivial
theorem hd.tw701787995468756871 : True := trivial
theorem hd.tw5461583852855630226 : True := trivial
theorem hd.tw2323474266016966308 : True := trivial
theorem hd.tw11210553801493137410 : True := trivial
theorem hd.tw8457440626546761165 : True := trivial
theorem hd.tw4702841417184801058 : True := trivial
theorem hd.tw9960721518486171458 : True := trivial
theorem hd.tw16868993833207775613 : True := trivial
theorem hd.tw17714235663813219645 : True := trivial
theorem hd.tw1439246655266547700 : True := trivial
theorem hd.tw14705683404202351889 : True := trivial
theorem hd.tw17047115858639842297 : True := trivial
theorem hd.tw10296555574160606952 : True := trivial
theorem hd.tw5366084841770067474 : True := trivial
theorem hd.tw10879034167726328663 : True := trivial
theorem hd.tw15043168886218598503 : True := trivial
theorem hd.tw7289634563603522867 : True := trivial
theorem hd.tw5657824000916062451 : True := trivial
theorem hd.tw6123773746684550334 : True := trivial
theorem hd.tw17950676927832955104 : True := trivial
theorem hd.tw8414420238210853183 : True := trivial
theorem hd.tw991583007596301734 : True := trivial
theorem hd.tw7023726343779634624 : True := trivial
theorem hd.tw18129098259903571784 : True := trivial
theorem hd.tw4065347644161347641 : True := trivial
theorem hd.tw8226494294326810461 : True := trivial
theorem hd.tw10601615944963115059 : True := trivial
theorem hd.tw11953376511379268794 : True := trivial
theorem hd.tw9657781627882305391 : True := trivial
theorem hd.tw11032806212648032379 : True := trivial
theorem hd.tw15089522573102190283 : True := trivial
theorem hd.tw6892424819385984264 : True := trivial
theorem hd.tw6924109203229866365 : True := trivial
theorem hd.tw6555240042291301478 : True := trivial
theorem hd.tw11917015161858427179 : True := trivial
theorem hd.tw17542962492245011380 : True := trivial
theorem hd.tw17672654358674132775 : True := trivial
theorem hd.tw6293948785866598258 : True := trivial
theorem hd.tw14103535550066685397 : True := trivial
theorem hd.tw8356816923877370021 : True := trivial
theorem hd.tw3530705653197291679 : True := trivial
theorem hd.tw15153279154761372571 : True := trivial
theorem hd.tw1997569388931296116 : True := trivial
theorem hd.tw18241275227582772068 : True := trivial
theorem hd.tw8841187974860818712 : True := trivial
theorem hd.tw8117029840178788049 : True := trivial
theorem hd.tw6545403380812914513 : True := trivial
theorem hd.tw16473244170626142550 : True := trivial
theorem hd.tw7914949630228597729 : True := trivial
theorem hd.tw2274498078352570744 : True := trivial
theorem hd.tw2167537188350426706 : True := trivial
theorem hd.tw2608437505485318709 : True := trivial
theorem hd.tw1865391376527767206 : True := trivial
theorem hd.tw17574625026820762457 : True := trivial
theorem hd.tw13866372431405929976 : True := trivial
theorem hd.tw15166520500009309586 : True := trivial
theorem hd.tw6663896369628448293 : True := trivial
theorem hd.tw978945382295711627 : True := trivial
theorem hd.tw9421340871869096474 : True := trivial
theorem hd.tw6820862383352777685 : True := trivial
theorem hd.tw4225703048834024713 : True := trivial
theorem hd.tw13437302318768402701 : True := trivial
theorem hd.tw4845836938831722396 : True := trivial
theorem hd.tw16920754564084929960 : True := trivial
theorem hd.tw16222499966895952523 : True := trivial
theorem hd.tw11631869004601391166 : True := trivial
theorem hd.tw16772102934027710169 : True := trivial
theorem hd.tw7763873220885509757 : True := trivial
theorem hd.tw11128854368766332075 : True := trivial
theorem hd.tw1382963296337349011 : True := trivial
theorem hd.tw17903497710992402801 : True := trivial
theorem hd.tw5036846961687405229 : True := trivial
theorem hd.tw2327210489368252092 : True := trivial
theorem hd.tw1860674893733999873 : True := trivial
theorem hd.tw1600037746751723098 : True := trivial
theorem hd.tw1580110805410547442 : True := trivial
theorem hd.tw3259873300814134281 : True := trivial
theorem hd.tw3182187488490625086 : True := trivial
theorem hd.tw11162318198679636149 : True := trivial
theorem hd.tw18322514126500204803 : True := trivial
theorem hd.tw17252143746492648416 : True := trivial
theorem hd.tw3452082135128663414 : True := trivial
theorem hd.tw13368278939475635651 : True := trivial
theorem hd.tw2708950531961675432 : True := trivial
theorem hd.tw18093812233618175256 : True := trivial
theorem hd.tw13919464512627920130 : True := trivial
theorem hd.tw17808607793243039243 : True := trivial
theorem hd.tw8047900516022102942 : True := trivial
theorem hd.tw189712035060473897 : True := trivial
theorem hd.tw7109450275434161582 : True := trivial
theorem hd.tw14896477498954680388 : True := trivial
theorem hd.tw307737655149646647 : True := trivial
theorem hd.tw12023040214023829324 : True := trivial
theorem hd.tw4086058157674990017 : True := trivial
theorem hd.tw16722109127936396110 : True := trivial
theorem hd.tw10603584201595350602 : True := trivial
theorem hd.tw7510230149288206974 : True := trivial
theorem hd.tw4706079058837389440 : True := trivial
theorem hd.tw5174551420813472067 : True := trivial
theorem hd.tw8025032847418708242 : True := trivial
theorem hd.tw8458067239894703972 : True := trivial
theorem hd.tw3571134770919094901 : True := trivial
theorem hd.tw6931407450589930559 : True := trivial
theorem hd.tw8959176491354863721 : True := trivial
theorem hd.tw4478166936697009375 : True := trivial
theorem hd.tw8428860471423672150 : True := trivial
theorem hd.tw10792051664901133789 : True := trivial
theorem hd.tw7068711184596962023 : True := trivial
theorem hd.tw4377701919642642989 : True := trivial
theorem hd.tw10743916045514856203 : True := trivial
theorem hd.tw17183224562656869120 : True := trivial
theorem hd.tw4325921153153474475 : True := trivial
theorem hd.tw3789350110615891812 : True := trivial
theorem hd.tw395138700845864316 : True := trivial
theorem hd.tw15852365999677673905 : True := trivial
theorem hd.tw8990313861142287110 : True := trivial
theorem hd.tw17606422857730326317 : True := trivial
theorem hd.tw4870687313549177768 : True := trivial
theorem hd.tw16345102440705955213 : True := trivial
theorem hd.tw17054507655720011243 : True := trivial
theorem hd.tw6785817131721698500 : True := trivial
theorem hd.tw6442067068224118133 : True := trivial
theorem hd.tw8789358453043137523 : True := trivial
theorem hd.tw9673543361469618366 : True := trivial
theorem hd.tw16064382804478563927 : True := trivial
theorem hd.tw9783614193127449063 : True := trivial
theorem hd.tw2930668341846507884 : True := trivial
theorem hd.tw12631932088317031055 : True := trivial
theorem hd.tw17061077104543960549 : True := trivial
theorem hd.tw15890378047532165470 : True := trivial
theorem hd.tw12092154237167983948 : True := trivial
theorem hd.tw12949589719889679912 : True := trivial
theorem hd.tw11054480109507316185 : True := trivial
theorem hd.tw16904818350239718627 : True := trivial
theorem hd.tw5278057926702712004 : True := trivial
theorem hd.tw2101469004524951375 : True := trivial
theorem hd.tw2442259710966052079 : True := trivial
theorem hd.tw10246146449241189800 : True := trivial
theorem hd.tw6767318904944593275 : True := trivial
theorem hd.tw6264232113106981867 : True := trivial
theorem hd.tw18350433093344046624 : True := trivial
theorem hd.tw12070051907170230399 : True := trivial
theorem hd.tw9566141503761928105 : True := trivial
theorem hd.tw14246236162039180721 : True := trivial
theorem hd.tw15103106377680225435 : True := trivial
theorem hd.tw12797040952259185971 : True := trivial
theorem hd.tw3759623122121258479 : True := trivial
theorem hd.tw4851647983119433812 : True := trivial
theorem hd.tw13483081372092288885 : True := trivial
theorem hd.tw15595854959937240912 : True := trivial
theorem hd.tw16194383521188589630 : True := trivial
theorem hd.tw11402939732021071671 : True := trivial
theorem hd.tw16945582573551092051 : True := trivial
theorem hd.tw12451258846644117672 : True := trivial
theorem hd.tw6154236146145331571 : True := trivial
theorem hd.tw7355570028127101125 : True := trivial
theorem hd.tw13828106393651249627 : True := trivial
theorem hd.tw15833661619300960221 : True := trivial
theorem hd.tw5567388512258382067 : True := trivial
theorem hd.tw17062030032774818151 : True := trivial
theorem hd.tw17177331786930743035 : True := trivial
theorem hd.tw17087091549796120035 : True := trivial
theorem hd.tw14620637471214046174 : True := trivial
theorem hd.tw11652457597714270106 : True := trivial
theorem hd.tw18293851220164018083 : True := trivial
theorem hd.tw14168552714766633299 : True := trivial
theorem hd.tw15416985209724490359 : True := trivial
theorem hd.tw11232374478483605306 : True := trivial
theorem hd.tw11660266114150955751 : True := trivial
theorem hd.tw3919010098100093602 : True := trivial
theorem hd.tw18166333605607142505 : True := trivial
theorem hd.tw3229955645248102723 : True := trivial
theorem hd.tw9237616624170024493 : True := trivial
theorem hd.tw7519716089354478335 : True := trivial
theorem hd.tw5732804406350252772 : True := trivial
theorem hd.tw10216474801634566288 : True := trivial
theorem hd.tw10752148897807903841 : True := trivial
theorem hd.tw5148922909946612681 : True := trivial
theorem hd.tw6838551448383532254 : True := trivial
theorem hd.tw16649331688326792143 : True := trivial
theorem hd.tw14176624398918483544 : True := trivial
theorem hd.tw9641152695372364146 : True := trivial
theorem hd.tw461538923250603899 : True := trivial
theorem hd.tw16853341256802265648 : True := trivial
theorem hd.tw6830512106363814048 : True := trivial
theorem hd.tw5608270528595127837 : True := trivial
theorem hd.tw6411954120941647267 : True := trivial
theorem hd.tw17397052962432165270 : True := trivial
theorem hd.tw3219085151875037572 : True := trivial
theorem hd.tw9170477692918782315 : True := trivial
theorem hd.tw13609717118414637909 : True := trivial
theorem hd.tw12588582704262371052 : True := trivial
theorem hd.tw18103342009636024947 : True := trivial
theorem hd.tw8716120427605611371 : True := trivial
theorem hd.tw1506431575118746342 : True := trivial
theorem hd.tw15837987909243819085 : True := trivial
theorem hd.tw13277076834127875243 : True := trivial
theorem hd.tw2867327485932766208 : True := trivial
theorem hd.tw16211521421427940678 : True := trivial
theorem hd.tw1011335219593555734 : True := trivial
theorem hd.tw16412773359747925120 : True := trivial
theorem hd.tw10525666975642140466 : True := trivial
theorem hd.tw8960069828448710407 : True := trivial
theorem hd.tw10614716105012338702 : True := trivial
theorem hd.tw1097998534492414930 : True := trivial
theorem hd.tw5373601922739893978 : True := trivial
theorem hd.tw17387473266821786944 : True := trivial
theorem hd.tw17901334829092211166 : True := trivial
theorem hd.tw13518370688599389936 : True := trivial
theorem hd.tw2195365466389143174 : True := trivial
theorem hd.tw11389486352061984695 : True := trivial
theorem hd.tw1760603350576429475 : True := trivial
theorem hd.tw5282504435634884242 : True := trivial
theorem hd.tw11213053971927718326 : True := trivial
theorem hd.tw13225837485096350037 : True := trivial
theorem hd.tw16037735763661986305 : True := trivial
theorem hd.tw6276725880618359904 : True := trivial
theorem hd.tw6598312636042714100 : True := trivial
theorem hd.tw13770079208771991547 : True := trivial
theorem hd.tw17739348878880393726 : True := trivial
theorem hd.tw15790720579355451973 : True := trivial
theorem hd.tw11319892378374348655 : True := trivial
theorem hd.tw1589133516308662214 : True := trivial
theorem hd.tw728884934406724761 : True := trivial
theorem hd.tw11117797201346649052 : True := trivial
theorem hd.tw15759970867653108152 : True := trivial
theorem hd.tw6407587892757256292 : True := trivial
theorem hd.tw13431754692932380062 : True := trivial
theorem hd.tw10258999931320997221 : True := trivial
theorem hd.tw15529170255622000948 : True := trivial
theorem hd.tw15673258824015622330 : True := trivial
theorem hd.tw8268277133935991078 : True := trivial
theorem hd.tw9557236495431379559 : True := trivial
theorem hd.tw10458740792067480800 : True := trivial
theorem hd.tw4172343393113369950 : True := trivial
theorem hd.tw12614811148066621264 : True := trivial
theorem hd.tw1882180444382439491 : True := trivial
theorem hd.tw14478148883734587675 : True := trivial
theorem hd.tw6196171512934965099 : True := trivial
theorem hd.tw9741134391959003819 : True := trivial
theorem hd.tw4360684699965382250 : True := trivial
theorem hd.tw18264374347568628810 : True := trivial
theorem hd.tw15508949281206285077 : True := trivial
theorem hd.tw14457593812595234344 : True := trivial
theorem hd.tw5343241284826551009 : True := trivial
theorem hd.tw9748044761591592747 : True := trivial
theorem hd.tw12487502673411948298 : True := trivial
theorem hd.tw13217225542625558698 : True := trivial
theorem hd.tw11136197038861592535 : True := trivial
theorem hd.tw18293732401869909652 : True := trivial
theorem hd.tw16056359734778111409 : True := trivial
theorem hd.tw8735263284916673568 : True := trivial
theorem hd.tw17893044597097874663 : True := trivial
theorem hd.tw13267510147771200024 : True := trivial
theorem hd.tw4014540891139286612 : True := trivial
theorem hd.tw15042006015671813226 : True := trivial
theorem hd.tw1836080755315867724 : True := trivial
theorem hd.tw5190246844813560578 : True := trivial
theorem hd.tw3109861748172591687 : True := trivial
theorem hd.tw18245042118932799458 : True := trivial
theorem hd.tw17330945745186091897 : True := trivial
theorem hd.tw1013155817946168525 : True := trivial
theorem hd.tw12113243949977362033 : True := trivial
theorem hd.tw2252305205657439004 : True := trivial
theorem hd.tw6164396464334811476 : True := trivial
theorem hd.tw6394381022753523788 : True := trivial
theorem hd.tw4494801613693538912 : True := trivial
theorem hd.tw18343703819029505601 : True := trivial
theorem hd.tw10424393626065333798 : True := trivial
theorem hd.tw7345208892882624808 : True := trivial
theorem hd.tw11959044307898795358 : True := trivial
theorem hd.tw4278124947684190350 : True := trivial
theorem hd.tw15114108414909977919 : True := trivial
theorem hd.tw13825509269061658866 : True := trivial
set_option Elab.async true in
set_option maxRecDepth 100000 in
set_option maxHeartbeats 8000000 in
theorem hd : PySem.Challenge.rw_no0375_01.row.Holds := by
  o_head (PySem.W.kHook Mine.k2 (List.cons 0 [2, 3, 15, 22, 23, 25, 26, 28, 29, 30, 32, 33, 35, 36, 37, 38, 39, 40, 43, 50, 51, 52, 55, 56, 58, 59, 61, 62, 63, 65, 66, 68, 69, 70, 72, 73, 75, 76, 77, 79, 80, 82, 83, 84, 86, 87, 89, 90, 91, 93, 94, 96, 97, 98, 100, 101, 103, 104, 105, 107, 108, 110, 111, 112, 114, 115, 117, 118, 119, 122, 123, 124, 126, 127, 129, 130, 138, 140, 141, 143, 144, 145, 147, 148, 150, 151, 152, 153, 154, 155, 156, 166, 168, 169, 171, 172, 173, 176, 177, 178, 179, 180, 181, 182, 185, 188, 189, 197, 199, 200, 202, 203, 204, 206, 207, 209, 210, 211, 213, 214, 216, 217, 218, 220, 221, 223, 224, 225, 227, 228, 230, 231, 232, 234, 235, 237, 238, 239, 241, 242, 244, 245, 246, 248, 249, 251, 252, 253, 255, 256, 258, 259, 260, 261, 262, 263, 264, 267, 269, 270, 272, 273, 274, 276, 277, 279, 280, 281, 283, 284, 286, 287, 288, 290, 291, 293, 294, 295, 297, 298, 300, 301, 302, 304, 305, 307, 308, 309, 311, 312, 314, 315, 316, 317, 318, 319, 320, 321, 322, 323, 326, 327, 328, 330, 331, 333, 334, 335, 337, 338, 340, 341, 342, 345, 346, 347, 349, 350, 352, 353, 354, 356, 357, 359, 360, 361, 363, 364, 366, 367, 368, 370, 371, 373, 374, 375, 377, 378, 380, 381, 382, 384, 385, 387, 388, 389, 391, 392, 394, 395, 396, 398, 399, 401, 402, 403, 406, 407]) (fun _ => by kernel_rfl))
  case hw => w_witness2
  (intro w s₀ s₁ mg mb G Y fa o pm cd doc dV kV ho hd hcd hD hmg hg args vals as hpre hlay hrd hwl hlo
   have KX := kIn_of Y
   refine Ground.open G ?_
   intro T B D TE TW
   x_fa T KX hmg
   wrow_args hpre hlay hrd hwl hlo
   refine enter_call ?_
   refine codeAny_mono ?_ (fun _ _ g => GoodW.toG g)
   rename Heap.IsList _ _ _ => hL
   rename IntsAre _ _ => hI
   rename ¬ (_ < _) => hlen
   exact law_top KX T hL hI (by omega) fun h' tk' hk => good_true hk hg)
set_option Elab.async true in
set_option maxRecDepth 100000 in
set_option maxHeartbeats 8000000 in
theorem law : PySem.Challenge.rw_no0375_01.Holds := by
  o_law
  exact hd
end Mine
set_option maxRecDepth 100000 in
set_option maxHeartbeats 8000000 in
theorem PySem.Challenge.cw_no0375_01_holds : PySem.Challenge.rw_no0375_01.Holds := by
  exact Mine.law
