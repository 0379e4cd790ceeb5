import PyProof.Rows.All
import Wide.All
import OpenK.AllK
import Wide.FinOn
import PySem.Challenge.RW_nn0003_01
open PySem PySem.W PyProof.Rows PySem.Calls
set_option Elab.async false
set_option maxRecDepth 100000
set_option maxHeartbeats 8000000 in
open_top hd for PySem.Challenge.rw_nn0003_01
namespace Mine
noncomputable def bindsM : List (Str × Value) → Str → Option Value
  | [] => fun _ => none
  | q :: r => fun y => if y = q.1 then some q.2 else bindsM r y
theorem bindsM_eq : ∀ l : List (Str × Value), (fun y => l.lookup y) = bindsM l
  | [] => rfl
  | (x, v) :: r => by
    funext y
    show List.lookup y ((x, v) :: r) = if y = x then some v else bindsM r y
    rw [List.lookup_cons]
    by_cases h : y = x
    · simp [h]
    · rw [if_neg h, ← bindsM_eq r]
      have : (y == x) = false := by simpa using h
      rw [this]
theorem fr_eq {h₀ h : Heap} {L : Addr} {m m' : Str → Option Value} (F : Fr h₀ L h m) (e : ∀ y, m y = m' y) : Fr h₀ L h m' := (funext e : m = m') ▸ F
end Mine
namespace Mine

abbrev PP : Program := PySem.Challenge.rw_nn0003_01.row.prog
abbrev Ar (d u : Nat) : Around := { handled := none, depth := d, frames := none, guards := none, units := u }

structure Gd (w : World) (p : Program) (loose : List Str) (mean : ExcName → Option Value) (mg mb : Str → Option Value) (b : Heap) : Prop where
  X : (hd.heap_39 w.params).In b
  T : Top p loose mean mg mb b

/-- what stands outside W stands as it stood -/
def Kept (W : List Addr) (h h' : Heap) : Prop := ∀ b o, b ∉ W → h.get? b = some o → h'.get? b = some o

theorem Gd.keeps {w : World} {p : Program} {loose : List Str} {mean : ExcName → Option Value} {mg mb : Str → Option Value} {b b' : Heap} (G : Gd w p loose mean mg mb b) (h : b.StaysIn b') : Gd w p loose mean mg mb b' :=
  ⟨G.X.keeps h, G.T.keeps h⟩

/-- the end of a call: it came back with a value -/
inductive Done (W : List Addr) (P : Value → Heap → Prop) (s : Shared) (r : Result) (s' : Shared) : Prop
  | mk  (v : Value) (h' : Heap) (tk' : Nat) (hq0 : r = .ok (.ret v)) (hq1 : s' = { s with heap := h', toks := tk' }) (hq2 : Kept W s.heap h') (hq3 : P v h') : Done W P s r s'

theorem enter {w : World} {p : Program} {loose : List Str} {mean : ExcName → Option Value} {mg mb : Str → Option Value} {b : Heap} {s : Shared} {d u : Nat} {R : Result → Shared → Prop}
    {name qual : Str} {params : Arguments} {body : List Stmt} {scope : Scope} {dV kV doc pm cdv ct oc : Value} {an od : Option Addr} {osl : Array (Option Value)} {f : Addr} {args : Args} {binds : List (Str × Value)}
    (G : Gd w p loose mean mg mb b) (hb : b.StaysIn s.heap) (hid : List (Addr × Obj)) (hh : ∀ q ∈ hid, s.heap.get? q.1 = some q.2 ∧ b.get? q.1 = none)
    (ho : (hd.heap_39 w.params).lookup f = some ⟨oc, od, .func (fnOf name qual params body scope dV kV doc pm an cdv ct), osl⟩)
    (hcd : codeIn (hd.heap_39 w.params) cdv qual = true) (hroom : d < recursionLimit)
    (hbind : BindsTo s (fnOf name qual params body scope dV kV doc pm an cdv ct) args binds) (hloc : ∀ y ∈ binds, scope.names.lookup y.1 = some .local)
    (h : ∀ g L h₁, g = hideAll s.heap (hid.map (·.1)) → Fr g L h₁ (fun y => binds.reverse.lookup y) → News g L h₁ hid → (hd.heap_39 w.params).In g → Top p loose mean mg mb g →
      wpAny (model PP w) (Ar (d + 1) (u + 3)) (execs body (envOf qual scope L f cdv))
        (fun fl s' => R (.ok (.ret (match fl with | .ret v => v | _ => .none))) s') (fun _ _ => False)
        { s with heap := h₁, toks := s.toks + binds.length })
    (hco : scope.isCoroutine = false) (hgen : scope.isGenerator = false) (hk : scope.kind = .function)
    (hcell : ∀ x ∈ scope.names, x.2 ≠ .cell) : codeAny (model PP w) (Ar d u) (.call (.ref f) args) R s := by
  have st : b.StaysIn (hideAll s.heap (hid.map (·.1))) := fun a o e => hideAll_get _ (hb a o e) fun q => by
    obtain ⟨x, hx, rfl⟩ := List.mem_map.mp q
    rw [(hh x hx).2] at e; cases e
  refine codeAny_call_def (fd := fnOf name qual params body scope dV kV doc pm an cdv ct) (body := body) (binds := binds) hroom (hb _ _ (G.X _ _ ho)) rfl (G.T.nolimit.keeps hb) (codeRec_of (G.X.keeps hb) hcd) rfl hbind hcell hloc (fun h₁ hns hk₁ => ?_) hco hgen hk
  have G' := G.keeps st
  refine wpAny_mono (h _ s.heap.objs.size h₁ rfl ⟨hns, fun a o e => hk₁ a o (of_hideAll _ e), Nat.le_of_eq (hideAll_size _ _)⟩
    (fun q hq => ⟨hk₁ _ _ (hh q hq).1, Nat.ne_of_lt (Heap.lt_size (hh q hq).1), hideAll_none _ (List.mem_map_of_mem hq)⟩) G'.X G'.T) (fun _ _ z => z) fun _ _ z => z.elim

/-- nothing is hidden: what stood stands -/
theorem enter0 {w : World} {p : Program} {loose : List Str} {mean : ExcName → Option Value} {mg mb : Str → Option Value} {b : Heap} {s : Shared} {d u : Nat} {R : Result → Shared → Prop}
    {name qual : Str} {params : Arguments} {body : List Stmt} {scope : Scope} {dV kV doc pm cdv ct oc : Value} {an od : Option Addr} {osl : Array (Option Value)} {f : Addr} {args : Args} {binds : List (Str × Value)}
    (G : Gd w p loose mean mg mb b) (hb : b.StaysIn s.heap)
    (ho : (hd.heap_39 w.params).lookup f = some ⟨oc, od, .func (fnOf name qual params body scope dV kV doc pm an cdv ct), osl⟩)
    (hcd : codeIn (hd.heap_39 w.params) cdv qual = true) (hroom : d < recursionLimit)
    (hbind : BindsTo s (fnOf name qual params body scope dV kV doc pm an cdv ct) args binds) (hloc : ∀ y ∈ binds, scope.names.lookup y.1 = some .local)
    (h : ∀ L h₁, Fr s.heap L h₁ (bindsM binds.reverse) → News s.heap L h₁ [] → (hd.heap_39 w.params).In s.heap → Top p loose mean mg mb s.heap →
      wpAny (model PP w) (Ar (d + 1) (u + 3)) (execs body (envOf qual scope L f cdv))
        (fun fl s' => R (.ok (.ret (match fl with | .ret v => v | _ => .none))) s') (fun _ _ => False)
        { s with heap := h₁, toks := s.toks + binds.length })
    (hco : scope.isCoroutine = false) (hgen : scope.isGenerator = false) (hk : scope.kind = .function)
    (hcell : ∀ x ∈ scope.names, x.2 ≠ .cell) : codeAny (model PP w) (Ar d u) (.call (.ref f) args) R s :=
  enter G hb [] (fun _ z => nomatch z) ho hcd hroom hbind hloc (fun _ L h₁ hg F N X T => by subst hg; exact h L h₁ (bindsM_eq binds.reverse ▸ F) N X T) hco hgen hk hcell

/-- the Around may be a smaller one -/
theorem wpAny_less {α : Type} {M : Model} {A : Around} {d u : Nat} {t : Sem α} {Q : α → Shared → Prop} {E : Value → Shared → Prop} {s : Shared}
    (hA : A.handled = none) (hd : A.depth ≤ d) (hu : A.units ≤ u) (h : wpAny M (Ar d u) t Q E s) : wpAny M A t Q E s :=
  fun Γ p hΓ => h Γ p ⟨hΓ.1.trans hA, Nat.le_trans hΓ.2.1 hd, (fun _ e => nomatch e), (fun _ e => nomatch e), Nat.le_trans hΓ.2.2.2.2 hu⟩
theorem codeAny_less {M : Model} {A : Around} {d u : Nat} {c : Code} {R : Result → Shared → Prop} {s : Shared}
    (hA : A.handled = none) (hd : A.depth ≤ d) (hu : A.units ≤ u) (h : codeAny M (Ar d u) c R s) : codeAny M A c R s :=
  fun Γ p hc hΓ => h Γ p hc ⟨hΓ.1.trans hA, Nat.le_trans hΓ.2.1 hd, (fun _ e => nomatch e), (fun _ e => nomatch e), Nat.le_trans hΓ.2.2.2.2 hu⟩

theorem Kept.fr {W : List Addr} {h₀ h h' : Heap} {L : Addr} {m : Str → Option Value} (F : Fr h₀ L h m) (k : Kept W h h') (hW : ∀ b ∈ W, b ≠ L ∧ h₀.get? b = none) : Fr h₀ L h' m := by
  obtain ⟨⟨o, es, ep, ho, r⟩, hk, ha⟩ := F
  exact ⟨⟨o, es, ep, k _ _ (fun q => (hW _ q).1 rfl) ho, r⟩, fun b o e => k b o (fun q => by rw [(hW _ q).2] at e; cases e) (hk b o e), ha⟩
theorem Kept.news {W : List Addr} {h₀ h h' : Heap} {L : Addr} {news : List (Addr × Obj)} (N : News h₀ L h news) (k : Kept W h h') (hW : ∀ q ∈ news, q.1 ∉ W) : News h₀ L h' news :=
  fun q hq => ⟨k _ _ (hW q hq) (N q hq).1, (N q hq).2⟩
theorem kept_of {h₀ h' : Heap} {L : Addr} {m : Str → Option Value} (F : Fr h₀ L h' m) : Kept [] h₀ h' := fun b o _ e => F.keep b o e

/-- a call of a def whose contract is known -/
theorem use {w : World} {A : Around} {s : Shared} {d u : Nat} {f : Value} {vs : List Value} {W : List Addr} {P : Value → Heap → Prop} {Q E : Value → Shared → Prop}
    (hA : A.handled = none) (hd : A.depth ≤ d) (hu : A.units ≤ u) (C : codeAny (model PP w) (Ar d u) (.call f ⟨vs, []⟩) (Done W P s) s)
    (h : ∀ v h' tk', Kept W s.heap h' → P v h' → Q v { s with heap := h', toks := tk' }) : wpAny (model PP w) A (call f vs) Q E s := by
  refine wpAny_call (codeAny_mono (codeAny_less hA hd hu C) fun r s' z => ?_)
  obtain ⟨v, h', tk', rfl, rfl, k, p⟩ := z
  exact h v h' tk' k p

/-- what a def hands back: an int -/
inductive IOut (Φ : Int → Prop) (v : Value) (hz : Heap) : Prop
  | mk  (r : Int) (t : Tok) (hq0 : v = .int r t) (hq1 : Φ r) : IOut Φ v hz
/-- a new list of ints -/
inductive LOut (H : Heap) (Φ : List Int → Prop) (v : Value) (h : Heap) : Prop
  | mk  (D : Addr) (us : List Value) (c : Nat) (ms : List Int) (hq0 : v = .ref D) (hq1 : H.get? D = none) (hq2 : h.get? D = some (listOf (List.toArray us) c)) (hq3 : IntsAre us ms) (hq4 : Φ ms) : LOut H Φ v h
abbrev tupOf (vs : List Value) (n : Nat) : Obj := { cls := .type "tuple", data := .seq vs.toArray n }
/-- a new pair of two new lists of ints -/
inductive PairOut (H : Heap) (Φ : List Int → List Int → Prop) (v : Value) (h : Heap) : Prop
  | mk  (T : Addr) (c : Nat) (D : Addr) (us : List Value) (c1 : Nat) (ms : List Int) (D' : Addr) (us' : List Value) (c2 : Nat) (ms' : List Int) (hq0 : v = .ref T) (hq1 : H.get? T = none) (hq2 : h.get? T = some (tupOf [.ref D, .ref D'] c)) (hq3 : H.get? D = none) (hq4 : h.get? D = some (listOf (List.toArray us) c1)) (hq5 : IntsAre us ms) (hq6 : H.get? D' = none) (hq7 : h.get? D' = some (listOf (List.toArray us') c2)) (hq8 : IntsAre us' ms') (hq9 : Φ ms ms') : PairOut H Φ v h
/-- a new pair of a bool and a new list of ints -/
inductive BoolOut (H : Heap) (Φ : List Int → Prop) (v : Value) (h : Heap) : Prop
  | mk  (T : Addr) (c : Nat) (B : Bool) (D : Addr) (us : List Value) (c1 : Nat) (ms : List Int) (hq0 : v = .ref T) (hq1 : H.get? T = none) (hq2 : h.get? T = some (tupOf [.bool B, .ref D] c)) (hq3 : H.get? D = none) (hq4 : h.get? D = some (listOf (List.toArray us) c1)) (hq5 : IntsAre us ms) (hq6 : Φ ms) : BoolOut H Φ v h

def AwayFrom (D : Addr) (news : List (Addr × Obj)) : Prop := ∀ q ∈ news, q.1 ≠ D
theorem AwayFrom.ne {D a : Addr} {o : Obj} {news : List (Addr × Obj)} (h : AwayFrom D news) (m : (a, o) ∈ news) : a ≠ D := h _ m

section
variable {w : World} {A : Around} {s : Shared} {d u : Nat} {f : Value} {vs : List Value} {Q E : Value → Shared → Prop} {h₀ : Heap} {L : Addr} {m : Str → Option Value} {news : List (Addr × Obj)}
theorem new_at {h' : Heap} {D : Addr} {o : Obj} (F : Fr h₀ L s.heap m) (hD : s.heap.get? D = none) (ho : h'.get? D = some o) : h'.get? D = some o ∧ D ≠ L ∧ h₀.get? D = none := by
  refine ⟨ho, fun q => ?_, ?_⟩
  · obtain ⟨oL, _, _, hL, _⟩ := F.ns
    rw [q, hL] at hD; cases hD
  · cases q : h₀.get? D with
    | none => rfl
    | some o' => rw [F.keep _ _ q] at hD; cases hD
theorem ne_new (N : News h₀ L s.heap news) {D : Addr} (hD : s.heap.get? D = none) : AwayFrom D news := fun q hq e => by
  have := (N q hq).1
  rw [e, hD] at this; cases this
theorem useInt {Φ : Int → Prop} (C : codeAny (model PP w) (Ar d u) (.call f ⟨vs, []⟩) (Done [] (IOut Φ) s) s)
    (F : Fr h₀ L s.heap m) (N : News h₀ L s.heap news) (hA : A.handled = none) (hd : A.depth ≤ d) (hu : A.units ≤ u)
    (h : ∀ r t h' tk', Fr h₀ L h' m → News h₀ L h' news → Φ r → Q (.int r t) { s with heap := h', toks := tk' }) : wpAny (model PP w) A (call f vs) Q E s := by
  refine use hA hd hu C fun v h' tk' k p => ?_
  obtain ⟨r, t, rfl, p⟩ := p
  exact h r t h' tk' (k.fr F fun _ z => nomatch z) (k.news N fun _ _ z => nomatch z) p
theorem useList {Φ : List Int → Prop} (C : codeAny (model PP w) (Ar d u) (.call f ⟨vs, []⟩) (Done [] (LOut s.heap Φ) s) s)
    (F : Fr h₀ L s.heap m) (N : News h₀ L s.heap news) (hA : A.handled = none) (hd : A.depth ≤ d) (hu : A.units ≤ u)
    (h : ∀ D us c ms h' tk', Fr h₀ L h' m → News h₀ L h' ((D, listOf (List.toArray us) c) :: news) → AwayFrom D news → IntsAre us ms → Φ ms → Q (.ref D) { s with heap := h', toks := tk' }) :
    wpAny (model PP w) A (call f vs) Q E s := by
  refine use hA hd hu C fun v h' tk' k p => ?_
  obtain ⟨D, us, c, ms, rfl, hD, ho, hi, p⟩ := p
  refine h D us c ms h' tk' (k.fr F fun _ z => nomatch z) (fun q hq => ?_) (ne_new N hD) hi p
  rcases List.mem_cons.mp hq with rfl | hq
  · exact new_at F hD ho
  · exact k.news N (fun _ _ z => nomatch z) q hq
theorem usePair {Φ : List Int → List Int → Prop} (C : codeAny (model PP w) (Ar d u) (.call f ⟨vs, []⟩) (Done [] (PairOut s.heap Φ) s) s)
    (F : Fr h₀ L s.heap m) (N : News h₀ L s.heap news) (hA : A.handled = none) (hd : A.depth ≤ d) (hu : A.units ≤ u)
    (h : ∀ T c D us c1 ms D' us' c2 ms' h' tk', Fr h₀ L h' m → News h₀ L h' ((T, tupOf [.ref D, .ref D'] c) :: (D, listOf (List.toArray us) c1) :: (D', listOf (List.toArray us') c2) :: news) → AwayFrom T news → AwayFrom D news → AwayFrom D' news → IntsAre us ms → IntsAre us' ms' → Φ ms ms' →
      Q (.ref T) { s with heap := h', toks := tk' }) : wpAny (model PP w) A (call f vs) Q E s := by
  refine use hA hd hu C fun v h' tk' k p => ?_
  obtain ⟨T, c, D, us, c1, ms, D', us', c2, ms', rfl, hT, hoT, hD, ho, hi, hD', ho', hi', p⟩ := p
  refine h T c D us c1 ms D' us' c2 ms' h' tk' (k.fr F fun _ z => nomatch z) (fun q hq => ?_) (ne_new N hT) (ne_new N hD) (ne_new N hD') hi hi' p
  rcases List.mem_cons.mp hq with rfl | hq
  · exact new_at F hT hoT
  rcases List.mem_cons.mp hq with rfl | hq
  · exact new_at F hD ho
  rcases List.mem_cons.mp hq with rfl | hq
  · exact new_at F hD' ho'
  · exact k.news N (fun _ _ z => nomatch z) q hq
theorem useBool {Φ : List Int → Prop} (C : codeAny (model PP w) (Ar d u) (.call f ⟨vs, []⟩) (Done [] (BoolOut s.heap Φ) s) s)
    (F : Fr h₀ L s.heap m) (N : News h₀ L s.heap news) (hA : A.handled = none) (hd : A.depth ≤ d) (hu : A.units ≤ u)
    (h : ∀ T c B D us c1 ms h' tk', Fr h₀ L h' m → News h₀ L h' ((T, tupOf [.bool B, .ref D] c) :: (D, listOf (List.toArray us) c1) :: news) → AwayFrom T news → AwayFrom D news → IntsAre us ms → Φ ms →
      Q (.ref T) { s with heap := h', toks := tk' }) : wpAny (model PP w) A (call f vs) Q E s := by
  refine use hA hd hu C fun v h' tk' k p => ?_
  obtain ⟨T, c, B, D, us, c1, ms, rfl, hT, hoT, hD, ho, hi, p⟩ := p
  refine h T c B D us c1 ms h' tk' (k.fr F fun _ z => nomatch z) (fun q hq => ?_) (ne_new N hT) (ne_new N hD) hi p
  rcases List.mem_cons.mp hq with rfl | hq
  · exact new_at F hT hoT
  rcases List.mem_cons.mp hq with rfl | hq
  · exact new_at F hD ho
  · exact k.news N (fun _ _ z => nomatch z) q hq
end

section
variable {s : Shared} {h' : Heap} {L : Addr} {m : Str → Option Value} {news : List (Addr × Obj)} {tk : Nat}
theorem done_int {Φ : Int → Prop} {r : Int} {t : Tok} (F : Fr s.heap L h' m) (hp : Φ r) :
    Done [] (IOut Φ) s (.ok (.ret (.int r t))) { heap := h', gens := s.gens, drawn := s.drawn, toks := tk, os := s.os } :=
  ⟨_, h', tk, rfl, rfl, kept_of F, r, t, rfl, hp⟩
theorem done_list {Φ : List Int → Prop} {D : Addr} {us : List Value} {c : Nat} {ms : List Int} (F : Fr s.heap L h' m) (N : News s.heap L h' news) (hm : (D, listOf (List.toArray us) c) ∈ news) (hi : IntsAre us ms) (hp : Φ ms) :
    Done [] (LOut s.heap Φ) s (.ok (.ret (.ref D))) { heap := h', gens := s.gens, drawn := s.drawn, toks := tk, os := s.os } :=
  ⟨_, h', tk, rfl, rfl, kept_of F, D, us, c, ms, rfl, (N _ hm).2.2, (N _ hm).1, hi, hp⟩
theorem done_pair {Φ : List Int → List Int → Prop} {T c D c1 D' c2 : Nat} {us us' : List Value} {ms ms' : List Int} (F : Fr s.heap L h' m) (N : News s.heap L h' news) (hT : (T, tupOf [.ref D, .ref D'] c) ∈ news)
    (hm : (D, listOf (List.toArray us) c1) ∈ news) (hm' : (D', listOf (List.toArray us') c2) ∈ news) (hi : IntsAre us ms) (hi' : IntsAre us' ms') (hp : Φ ms ms') :
    Done [] (PairOut s.heap Φ) s (.ok (.ret (.ref T))) { heap := h', gens := s.gens, drawn := s.drawn, toks := tk, os := s.os } :=
  ⟨_, h', tk, rfl, rfl, kept_of F, T, c, D, us, c1, ms, D', us', c2, ms', rfl, (N _ hT).2.2, (N _ hT).1, (N _ hm).2.2, (N _ hm).1, hi, (N _ hm').2.2, (N _ hm').1, hi', hp⟩
theorem done_bool {Φ : List Int → Prop} {T c D c1 : Nat} {B : Bool} {us : List Value} {ms : List Int} (F : Fr s.heap L h' m) (N : News s.heap L h' news) (hT : (T, tupOf [.bool B, .ref D] c) ∈ news)
    (hm : (D, listOf (List.toArray us) c1) ∈ news) (hi : IntsAre us ms) (hp : Φ ms) :
    Done [] (BoolOut s.heap Φ) s (.ok (.ret (.ref T))) { heap := h', gens := s.gens, drawn := s.drawn, toks := tk, os := s.os } :=
  ⟨_, h', tk, rfl, rfl, kept_of F, T, c, B, D, us, c1, ms, rfl, (N _ hT).2.2, (N _ hT).1, (N _ hm).2.2, (N _ hm).1, hi, hp⟩
end

def Stop (P : Prop) : Prop := P
theorem stopHere {P : Prop} (h : Stop P) : P := h
theorem goOn {P : Prop} (h : P) : Stop P := h

section
variable {M : Model} {A : Around} {E : Value → Shared → Prop} {s : Shared} {name : Str} {scope : Scope} {L a : Addr} {cd : Value} {h₀ : Heap} {m : Str → Option Value}
theorem nm {env : Env} {x : Str} {pos : Pos} {v : Value} {Q : Value → Shared → Prop} (F : Fr h₀ L s.heap m) (hL : env.locals = L) (hl : env.kindOf x = some .local) (hv : m x = some v) (hk : env.scope.kind = .function)
    (hd : (x == ("__debug__" : Str)) = false) (h : Q v s) :
    wpAny M A (eval (.Name x pos) env) Q E s := by
  subst hL
  exact wpAny_Name (wpAny_loadName_local hk hl F.ns hv h) hd
/-- the values of a row of plain local names, or nothing -/
noncomputable def argVals (m : Str → Option Value) (env : Env) : List PySem.Expr → Option (List Value)
  | [] => some []
  | e :: r => match e with
    | .Name x _ => match env.kindOf x, (x == ("__debug__" : Str)), m x, argVals m env r with
      | some .local, false, some v, some vs => some (v :: vs)
      | _, _, _, _ => none
    | _ => none
theorem argsN {env : Env} {pos : Pos} (F : Fr h₀ L s.heap m) (hL : env.locals = L) (hk : env.scope.kind = .function) : ∀ {es : List PySem.Expr} {vs : List Value} {Q : List Value → Shared → Prop}, argVals m env es = some vs → Q vs s →
    wpAny M A (spliced (backTo pos (starEach es env))) Q E s
  | [], vs, Q, hv, h => by
    cases Option.some.inj hv
    exact spliced_nil h
  | e :: r, vs, Q, hv, h => by
    unfold argVals at hv
    split at hv
    · split at hv
      · rename_i h1 h2 h3 h4
        cases Option.some.inj hv
        exact args_cons (nm F hL h1 h3 hk h2 (argsN F hL hk h4 h))
      · cases hv
    · cases hv
end
end Mine
namespace Mine
open PyProof.V PySem.Spec
theorem ints_snoc {us : List Value} {ms : List Int} (h : IntsAre us ms) (v : Int) (t : Tok) : IntsAre (us ++ [.int v t]) (ms ++ [v]) := by
  induction h with
  | nil => exact IntsAre.cons _ _ IntsAre.nil
  | cons a tk _ ih => exact IntsAre.cons _ _ ih

/-- the end of a turn of a loop that grows the list D and turns the int y -/
inductive LIEnd (h₀ : Heap) (L D : Addr) (x y : Str) (stored : List Str) (m₀ : Str → Option Value) (P : Nat → List Int → Int → Prop) (own : List (Addr × Obj)) (i : Nat) (s s' : Shared) : Prop
  | mk  (h' : Heap) (tk : Nat) (us : List Value) (ms : List Int) (e : Nat) (cy : Int) (ct : Tok) (m' : Str → Option Value) (news' : List (Addr × Obj)) (hq0 : s' = { s with heap := h', toks := tk }) (hq1 : Fr h₀ L h' m') (hq2 : News h₀ L h' news') (hq3 : (D, listOf (List.toArray us) e) ∈ news') (hq4 : (∀ q ∈ own, q ∈ news')) (hq5 : IntsAre us ms) (hq6 : m' y = some (.int cy ct)) (hq7 : (∀ z, z ≠ x → z ≠ y → stored.contains z = false → m' z = m₀ z)) (hq8 : P i ms cy) : LIEnd h₀ L D x y stored m₀ P own i s s'
def LIPost (h₀ : Heap) (L D : Addr) (x y : Str) (stored : List Str) (m₀ : Str → Option Value) (P : Nat → List Int → Int → Prop) (own : List (Addr × Obj)) (i : Nat) (s : Shared) (Q : Flow → Shared → Prop) (f : Flow) (s' : Shared) : Prop :=
  match f with
  | .ret v => Q (.ret v) s'
  | .brk => Q .next s'
  | _ => LIEnd h₀ L D x y stored m₀ P own i s s'
theorem LIEnd.intro {h₀ : Heap} {L D : Addr} {x y : Str} {stored : List Str} {m₀ m' : Str → Option Value} {P : Nat → List Int → Int → Prop} {own news' : List (Addr × Obj)} {i : Nat} {s : Shared} {h' : Heap} {tk : Nat} {us : List Value} {ms : List Int} {e : Nat} {cy : Int} {ct : Tok}
    (F : Fr h₀ L h' m') (N : News h₀ L h' news') (hD : (D, listOf (List.toArray us) e) ∈ news') (ho : ∀ q ∈ own, q ∈ news') (hi : IntsAre us ms) (hy : m' y = some (.int cy ct))
    (hm : ∀ z, z ≠ x → z ≠ y → stored.contains z = false → m' z = m₀ z) (hp : P i ms cy) :
    LIEnd h₀ L D x y stored m₀ P own i s { heap := h', gens := s.gens, drawn := s.drawn, toks := tk, os := s.os } := ⟨h', tk, us, ms, e, cy, ct, m', news', rfl, F, N, hD, ho, hi, hy, hm, hp⟩

theorem mask_eq (x : Int) (k : Nat) : Builtin.bitAnd x (1 * 2 ^ k - 1) = x % 2 ^ k := by rw [Int.one_mul, kbt_mask]
theorem shift_eq (x : Int) (k : Nat) : x.fdiv (2 ^ k) = x / 2 ^ k := Int.fdiv_eq_ediv_of_nonneg _ (Int.le_of_lt (kbt_pos k))
theorem base_gt {w : Int} (h : 1 ≤ w) : (1 : Int) < 2 ^ w.toNat := by
  obtain ⟨k, e⟩ : ∃ k, w.toNat = k + 1 := ⟨w.toNat - 1, by omega⟩
  have := kbt_pos k
  rw [e, Int.pow_succ]; omega
theorem fmod_eq (x : Int) (k : Nat) : x.fmod (2 ^ k) = x % 2 ^ k := Int.fmod_eq_emod_of_nonneg _ (Int.le_of_lt (kbt_pos k))
theorem sz_ok {vs : List Value} {ns : List Int} (hi : IntsAre vs ns) (h : ns.length ≤ 10000) : vs.toArray.size ≤ sizeLine := by
  have : sizeLine = 16777216 := rfl
  rw [List.size_toArray, hi.length]; omega
section
variable {prog : Program} {w : World} {A : Around} {E : Value → Shared → Prop} {s : Shared} {env : Env} {h₀ : Heap} {x : Str} {body : List Stmt} {Q : Flow → Shared → Prop}
theorem loopLI {r : Addr} {a₀ b₀ : Int} {t₀ u₀ v₀ : Tok} {n : Nat} {m₀ : Str → Option Value} {D : Addr} {c₀ : Int} {ct₀ : Tok} {us₀ : List Value} {ms₀ : List Int} {e₀ : Nat} (y : Str) (stored : List Str) (P : Nat → List Int → Int → Prop)
    (hh : A.handled = none) (hr : IsRange s.heap r a₀ b₀ 1 t₀ u₀ v₀) (hsmall : Builtin.Range.small a₀ b₀ 1 = true) (hn : Builtin.Range.rangeSize a₀ b₀ 1 = (n : Int)) (F : Fr h₀ env.locals s.heap m₀) (N : News h₀ env.locals s.heap [(D, listOf (List.toArray us₀) e₀)])
    (hi : IntsAre us₀ ms₀) (hk : m₀ y = some (.int c₀ ct₀)) (hp : P 0 ms₀ c₀)
    (turn : ∀ us ms e cy ct (i : Nat) (k : Int) t (u : Str → Option Value) h tk own, k = a₀ + (i : Int) → i < n → OwnOff own [D] → IntsAre us ms → P i ms cy →
      Fr h₀ env.locals h (fun z => if z = x then some (.int k t) else if z = y then some (.int cy ct) else if stored.contains z then u z else m₀ z) → News h₀ env.locals h ((D, listOf (List.toArray us) e) :: own) →
      wpAny (model prog w) A (execs body env) (LIPost h₀ env.locals D x y stored m₀ P own (i + 1) { s with heap := h, toks := tk } Q) E { s with heap := h, toks := tk })
    (done : ∀ us ms e cy ct (u : Str → Option Value) h tk, IntsAre us ms → P n ms cy → Fr h₀ env.locals h (fun z => if z = x then u z else if z = y then some (.int cy ct) else if stored.contains z then u z else m₀ z) → News h₀ env.locals h [(D, listOf (List.toArray us) e)] →
      Q .next { s with heap := h, toks := tk }) :
    wpAny (model prog w) A (pyIter (.ref r)) (fun it s₂ => LoopAtV prog w A h₀ env x body Q E it s₂) E s := by
  refine kst_range (σ := List Value × List Int × Nat × Int × Tok) (n := n) (fun c => [(D, listOf (List.toArray c.1) c.2.2.1)]) (fun c => [(y, .int c.2.2.2.1 c.2.2.2.2)]) (fun c => IntsAre c.1 c.2.1) stored
    (fun pre c => P pre.length c.2.1 c.2.2.2.1) (us₀, ms₀, e₀, c₀, ct₀) hh hr hsmall hn F N hi (fun q hq => ?_) hp ?_ ?_
  · rw [List.mem_singleton.mp hq]; exact hk
  · rintro ⟨us, ms, e, cy, ct⟩ pre k t u h tk own hk' hlt hoff hf hp' F' N'
    refine wpAny_mono (turn us ms e cy ct pre.length k t u h tk own hk' hlt hoff hf hp' F' N') (fun f s₂ q => ?_) fun _ _ z => z
    have fin : LIEnd h₀ env.locals D x y stored m₀ P own (pre.length + 1) { s with heap := h, toks := tk } s₂ → InvEndN h₀ env.locals (KstS (fun c : List Value × List Int × Nat × Int × Tok => [(D, listOf (List.toArray c.1) c.2.2.1)]) (fun c => [(y, .int c.2.2.2.1 c.2.2.2.2)]) (fun c => IntsAre c.1 c.2.1) x stored m₀ (fun pre c => P pre.length c.2.1 c.2.2.2.1) (pre ++ [k])) own [D] { s with heap := h, toks := tk } s₂ := by
      rintro ⟨h', tk', us', ms', e', cy', ct', m', news', rfl, F1, N1, hD, ho, hi', hy, hm, hP⟩
      refine kst_end (us', ms', e', cy', ct') F1 N1 (fun q hq => ?_) ho rfl hi' (fun q hq => ?_) (fun z h1 h2 h3 => hm z h1 (h2 _ (List.mem_singleton.mpr rfl)) h3) ?_
      · rw [List.mem_singleton.mp hq]; exact hD
      · rw [List.mem_singleton.mp hq]; exact hy
      · show P (pre ++ [k]).length ms' cy'
        rw [List.length_append]; exact hP
    cases f with
    | ret v => exact q
    | brk => exact q
    | next => exact fin q
    | cont => exact fin q
  · rintro ⟨us, ms, e, cy, ct⟩ u h tk hf hp' F' N'
    refine done us ms e cy ct u h tk hf ?_ F' N'
    have hp2 : P (rangeKs a₀ n).length ms cy := hp'
    rw [rangeKs_length] at hp2; exact hp2
theorem appD {L D : Addr} {m : Str → Option Value} {own : List (Addr × Obj)} {us : List Value} {e : Nat} {x : Value} {Q : Value → Shared → Prop} (F : Fr h₀ L s.heap m) (N : News h₀ L s.heap ((D, listOf (List.toArray us) e) :: own)) (ho : ∀ q ∈ own, q.1 ≠ D) (hz : us.length ≤ 10000)
    (h : ∀ h', Fr h₀ L h' m → News h₀ L h' ((D, listOf (List.toArray (us ++ [x])) (e + 1)) :: own) → Q .none { s with heap := h' }) :
    wpAny (model prog w) A (call (.builtin "list.append") [.ref D, x]) Q E s := by
  refine append_K F N (Upd.head ho) (fun h' F' N' => h h' F' ?_) ?_
  · rw [List.push_toArray] at N'; exact N'
  · have : sizeLine = 16777216 := rfl
    rw [List.size_toArray]; omega
theorem offOne {D : Addr} {own : List (Addr × Obj)} (h : OwnOff own [D]) : ∀ q ∈ own, q.1 ≠ D := fun q hq => h q hq D (.head _)
theorem offNil {D : Addr} : ∀ q ∈ ([] : List (Addr × Obj)), q.1 ≠ D := fun _ z => nomatch z
/-- the end of a while's turn: the list D grows, the int y turns -/
inductive WLEnd (h₀ : Heap) (L D : Addr) (y : Str) (m₀ : Str → Option Value) (P : List Int → Int → Prop) (μ : Int → Nat) (c : Int) (s s' : Shared) : Prop
  | mk  (h' : Heap) (tk : Nat) (us : List Value) (ms : List Int) (e : Nat) (cy : Int) (ct : Tok) (m' : Str → Option Value) (news' : List (Addr × Obj)) (hq0 : s' = { s with heap := h', toks := tk }) (hq1 : Fr h₀ L h' m') (hq2 : News h₀ L h' news') (hq3 : (D, listOf (List.toArray us) e) ∈ news') (hq4 : IntsAre us ms) (hq5 : m' y = some (.int cy ct)) (hq6 : (∀ z, z ≠ y → m' z = m₀ z)) (hq7 : P ms cy) (hq8 : μ cy < μ c) : WLEnd h₀ L D y m₀ P μ c s s'
def WLPost (h₀ : Heap) (L D : Addr) (y : Str) (m₀ : Str → Option Value) (P : List Int → Int → Prop) (μ : Int → Nat) (c : Int) (s : Shared) (Q : Flow → Shared → Prop) (f : Flow) (s' : Shared) : Prop :=
  match f with
  | .ret v => Q (.ret v) s'
  | .brk => Q .next s'
  | _ => WLEnd h₀ L D y m₀ P μ c s s'
theorem WLEnd.intro {L D : Addr} {y : Str} {m₀ m' : Str → Option Value} {P : List Int → Int → Prop} {μ : Int → Nat} {news' : List (Addr × Obj)} {s : Shared} {h' : Heap} {tk : Nat} {us : List Value} {ms : List Int} {e : Nat} {c cy : Int} {ct : Tok}
    (F : Fr h₀ L h' m') (N : News h₀ L h' news') (hD : (D, listOf (List.toArray us) e) ∈ news') (hi : IntsAre us ms) (hy : m' y = some (.int cy ct))
    (hm : ∀ z, z ≠ y → m' z = m₀ z) (hp : P ms cy) (hμ : μ cy < μ c) :
    WLEnd h₀ L D y m₀ P μ c s { heap := h', gens := s.gens, drawn := s.drawn, toks := tk, os := s.os } := ⟨h', tk, us, ms, e, cy, ct, m', news', rfl, F, N, hD, hi, hy, hm, hp, hμ⟩
inductive WLInv (D : Addr) (y : Str) (m₀ : Str → Option Value) (P : List Int → Int → Prop) (μ : Int → Nat) (n : Nat) (m : Str → Option Value) (nx : List (Addr × Obj)) : Prop
  | mk (us : List Value) (ms : List Int) (e : Nat) (cy : Int) (ct : Tok) (hq0 : nx = [(D, listOf (List.toArray us) e)]) (hq1 : IntsAre us ms) (hq2 : m y = some (.int cy ct)) (hq3 : ∀ z, z ≠ y → m z = m₀ z) (hq4 : P ms cy) (hq5 : μ cy = n) : WLInv D y m₀ P μ n m nx
theorem whileLI {L : Addr} {test : Expr} {pos : Pos} {m₀ : Str → Option Value} {D : Addr} {c₀ : Int} {ct₀ : Tok} {us₀ : List Value} {ms₀ : List Int} {e₀ : Nat} (y : Str) (P : List Int → Int → Prop) (μ : Int → Nat)
    (F : Fr h₀ L s.heap m₀) (N : News h₀ L s.heap [(D, listOf (List.toArray us₀) e₀)]) (hi : IntsAre us₀ ms₀) (hk : m₀ y = some (.int c₀ ct₀)) (hp : P ms₀ c₀)
    (turn : ∀ us ms e cy ct h tk, IntsAre us ms → P ms cy → Fr h₀ L h (fun z => if z = y then some (.int cy ct) else m₀ z) → News h₀ L h [(D, listOf (List.toArray us) e)] →
      wpAny (model prog w) A (isTrue test env (eval test env)) (fun b s₂ =>
        if b = true then wpAny (model prog w) A (execs body env) (WLPost h₀ L D y m₀ P μ cy s Q) E s₂ else Q .next s₂) E { s with heap := h, toks := tk })
    (hE : PassesOwn (model prog w) A env E) :
    wpAny (model prog w) A (exec (.While test body [] pos) env) Q E s := by
  refine While_inv2 (WLInv D y m₀ P μ) F N ⟨us₀, ms₀, e₀, c₀, ct₀, rfl, hi, hk, fun _ _ => rfl, hp, rfl⟩ ?_ hE
  rintro n m₁ nx h tk F₁ N₁ ⟨us, ms, e, cy, ct, rfl, hi', hy, hm, hp', rfl⟩
  have em : ∀ z, m₁ z = (fun z => if z = y then some (.int cy ct) else m₀ z) z := fun z => by
    by_cases q : z = y
    · simp only [if_pos q]; rw [q, hy]
    · simp only [if_neg q]; exact hm z q
  refine wpAny_mono (turn us ms e cy ct h tk hi' hp' (fr_eq F₁ em) N₁) (fun b s₂ p => ?_) fun _ _ z => z
  cases b with
  | false => simpa using p
  | true =>
    simp only [if_true] at p ⊢
    refine wpAny_mono p (fun f s₃ q => ?_) fun _ _ z => z
    have fin : WLEnd h₀ L D y m₀ P μ cy s s₃ → ∃ h' tk m₂ news₂ n', s₃ = { s with heap := h', toks := tk } ∧ Fr h₀ L h' m₂ ∧ News h₀ L h' news₂ ∧ n' < μ cy ∧ WLInv D y m₀ P μ n' m₂ news₂ := by
      rintro ⟨h', tk', us', ms', e', cy', ct', m', news', rfl, F', N', hD, hi9, hy9, hm9, hp9, hμ9⟩
      exact ⟨h', tk', m', [(D, listOf (List.toArray us') e')], μ cy', rfl, F', (fun q hq => by rw [List.mem_singleton.mp hq]; exact N' _ hD), hμ9, us', ms', e', cy', ct', rfl, hi9, hy9, hm9, hp9, rfl⟩
    cases f with
    | ret v => exact q
    | brk => exact q
    | next => exact fin q
    | cont => exact fin q
end

/-- a call whose frame has cells -/
theorem enterC {w : World} {p : Program} {loose : List Str} {mean : ExcName → Option Value} {mg mb : Str → Option Value} {b : Heap} {s : Shared} {d u : Nat} {R : Result → Shared → Prop}
    {name qual : Str} {params : Arguments} {body : List Stmt} {scope : Scope} {dV kV doc pm cdv ct oc : Value} {an od : Option Addr} {osl : Array (Option Value)} {f : Addr} {args : Args} {binds : List (Str × Value)}
    (G : Gd w p loose mean mg mb b) (hb : b.StaysIn s.heap)
    (ho : (hd.heap_39 w.params).lookup f = some ⟨oc, od, .func (fnOf name qual params body scope dV kV doc pm an cdv ct), osl⟩)
    (hcd : codeIn (hd.heap_39 w.params) cdv qual = true) (hroom : d < recursionLimit)
    (hbind : BindsTo s (fnOf name qual params body scope dV kV doc pm an cdv ct) args binds)
    (hkind : (binds.all fun y => scope.names.lookup y.1 == some .local || scope.names.lookup y.1 == some .cell) = true) (hnd : ((cellsFrom 0 scope.names []).map (·.1)).Nodup)
    (h : ∀ L h₁ tk cells, Fr s.heap L h₁ (bindL (envOfC qual scope L f cdv).kindOf binds fun _ => none) → News s.heap L h₁ cells →
      CellsAre (bindC (envOfC qual scope L f cdv).kindOf binds fun _ => none) (cellsFrom (L + 1) scope.names []) cells → (hd.heap_39 w.params).In s.heap → Top p loose mean mg mb s.heap →
      wpAny (model PP w) (Ar (d + 1) (u + 3)) (execs body (envOfC qual scope L f cdv))
        (fun fl s' => R (.ok (.ret (match fl with | .ret v => v | _ => .none))) s') (fun _ _ => False)
        { s with heap := h₁, toks := tk })
    (hco : scope.isCoroutine = false) (hgen : scope.isGenerator = false) (hk : scope.kind = .function) : codeAny (model PP w) (Ar d u) (.call (.ref f) args) R s := by
  have G' := G.keeps hb
  refine codeAny_call_function hroom (hb _ _ (G.X _ _ ho)) rfl hco hgen rfl (codeRec_of G'.X hcd) (hbind _ _ _ _ ?_)
  refine wpAny_newFunctionEnv_cells hk (kindsX hkind _) fun env' he s' x => ?_
  subst he
  refine ⟨G'.T.nolimit.keeps x.toInCall.keep, codeAny_func ?_⟩
  obtain ⟨h₁, tk, rfl, _⟩ := x.done
  have hk₁ := x.toInCall.keep
  obtain ⟨cells, NC, Y⟩ := Cl.news (h₀ := s.heap) (Nat.le_refl _) fun n c hm => ⟨x.cell n c (lookup_of_mem_nodup (cellsFrom_names scope.names 0 (s.heap.objs.size + 1) [] [] rfl ▸ hnd) hm), x.above n c hm⟩
  exact wpAny_mono (h s.heap.objs.size h₁ tk cells ⟨x.toInCall.ns, hk₁, Nat.le_refl _⟩ NC Y G'.X G'.T) (fun _ _ z => z) fun _ _ z => z.elim
end Mine
namespace Mine
theorem two_toNat (H : Int) : (2 * H).toNat = H.toNat * 2 := by
  cases H with
  | ofNat n => exact Nat.mul_comm 2 n
  | negSucc n => rfl
theorem le_max2 {a b m k : Nat} (h : m ≤ max a b) (ha : a ≤ k) (hb : b ≤ k) : m ≤ k := Nat.le_trans h (Nat.max_le.mpr ⟨ha, hb⟩)
theorem le_max3 {a b c m k k2 : Nat} (h : m ≤ max (max a b + 1) c + 1) (ha : a ≤ k) (hb : b ≤ k) (hc : c ≤ k) (hk : Nat.ble (k + 2) k2 = true) : m ≤ k2 :=
  Nat.le_trans h (Nat.le_trans (Nat.succ_le_succ (Nat.max_le.mpr ⟨Nat.succ_le_succ (Nat.max_le.mpr ⟨ha, hb⟩), Nat.le_succ_of_le hc⟩)) (Nat.le_of_ble_eq_true hk))
theorem twice_le {c a k : Nat} (h : c ≤ 2 * a) (ha : a ≤ k) : c ≤ 2 * k := Nat.le_trans h (Nat.mul_le_mul_left 2 ha)
theorem add_len {n a b m : Nat} (hn : n < a) (hl : m ≤ max (a - n) b + 1) : min n a + m ≤ max a (n + b) + 1 := by
  rw [Nat.min_eq_left (Nat.le_of_lt hn)]
  refine Nat.le_trans (Nat.add_le_add_left hl n) (Nat.succ_le_succ ?_)
  show n + max (a - n) b ≤ _
  rw [← Nat.add_max_add_left, Nat.add_sub_cancel' (Nat.le_of_lt hn)]
  exact Nat.le_refl _
theorem sub_split {l : Nat} (h : l < 512) : ∃ k, 512 - l = k + 1 ∧ 512 - (l + (0 + 1)) = k := by
  obtain ⟨k, hk⟩ := Nat.exists_eq_add_of_lt h
  exact ⟨k, Nat.sub_eq_of_eq_add (hk.trans (by rw [Nat.add_assoc, Nat.add_comm])), Nat.sub_eq_of_eq_add (hk.trans (by rw [Nat.add_comm l k, Nat.add_assoc]))⟩
theorem put_len {a b c m1 m2 s s2 : Nat} (h1 : m1 ≤ max a (s + b) + 1) (h2 : m2 ≤ max m1 (s2 + c) + 1) (ha : a ≤ 40) (hb : b ≤ 40) (hc : c ≤ 40) (hs : s ≤ 40) (hs2 : s2 ≤ 80) : m2 ≤ 150 :=
  have k1 : m1 ≤ 81 := Nat.le_trans h1 (Nat.succ_le_succ (Nat.max_le.mpr ⟨Nat.le_trans ha (by decide), Nat.add_le_add hs hb⟩))
  Nat.le_trans h2 (Nat.le_trans (Nat.succ_le_succ (Nat.max_le.mpr ⟨Nat.le_trans k1 (by decide), Nat.add_le_add hs2 hc⟩)) (show 120 + 1 ≤ 150 by decide))
theorem mid_len {a b c m1 m2 : Nat} (h1 : m1 ≤ max a b + 1) (h2 : m2 ≤ max m1 c + 1) : m2 ≤ max (max a b + 1) c + 1 :=
  Nat.le_trans h2 (Nat.succ_le_succ (Nat.max_le.mpr ⟨Nat.le_trans h1 (Nat.le_max_left _ _), Nat.le_max_right _ _⟩))
theorem mid_len2 {a b c m1 m2 : Nat} (h1 : m1 ≤ max a b + 1) (h2 : m2 ≤ m1) : m2 ≤ max (max a b + 1) c + 1 :=
  Nat.le_trans h2 (Nat.le_trans h1 (Nat.le_trans (Nat.le_max_left _ _) (Nat.le_succ _)))
theorem mid_len3 {a b m1 : Nat} (h1 : m1 ≤ max a b + 1) (ha : a ≤ 90) (hb : b ≤ 90) : m1 ≤ 100 :=
  Nat.le_trans h1 (Nat.le_trans (Nat.succ_le_succ (Nat.max_le.mpr ⟨ha, hb⟩)) (by decide))
theorem sk_facts {N n n' : Nat} {H : Int} (e : 2 * H ≤ (N : Int) + 1 ∧ (N : Int) ≤ 2 * H) (hN : N ≤ n) (hn : n ≤ 20) (hn' : n ≤ 2 * n') :
    0 ≤ H ∧ H ≤ 10 ∧ H.toNat ≤ N ∧ N - H.toNat ≤ n' ∧ N - H.toNat ≤ 10 ∧ H.toNat ≤ n' ∧ H.toNat ≤ 10 := by
  obtain ⟨k, rfl⟩ := Int.eq_ofNat_of_zero_le (show 0 ≤ H by omega)
  show 0 ≤ (k : Int) ∧ (k : Int) ≤ 10 ∧ k ≤ N ∧ N - k ≤ n' ∧ N - k ≤ 10 ∧ k ≤ n' ∧ k ≤ 10
  have h1 : N ≤ 2 * k := by omega
  have h2 : 2 * k ≤ N + 1 := by omega
  have h3 : k ≤ 10 := by omega
  have h4 : k ≤ n' := by omega
  have h5 : N ≤ k + k := by omega
  exact ⟨Int.natCast_nonneg k, Int.ofNat_le.mpr h3, by omega, Nat.sub_le_of_le_add (Nat.le_trans h5 (Nat.add_le_add_right h4 k)), Nat.sub_le_of_le_add (Nat.le_trans h5 (Nat.add_le_add_right h3 k)), h4, h3⟩
theorem abs36 {a b : Int} (a0 : 0 ≤ a) (a1 : a < 2 ^ 36) (b0 : 0 ≤ b) (b1 : b < 2 ^ 36) : 0 ≤ (if a - b < 0 then -(a - b) else a - b) ∧ (if a - b < 0 then -(a - b) else a - b) < 2 ^ 36 := by
  split
  · exact ⟨by omega, by omega⟩
  · exact ⟨by omega, by omega⟩
theorem gt64 {x : Int} (h : 0 ≤ x) : -2 ^ 64 < x := Int.lt_of_lt_of_le (by decide) h
theorem lt64 {x : Int} (h : x < 2 ^ 36) : x < 2 ^ 64 := Int.lt_trans h (by decide)
theorem law_small {x y : Int} (hx0 : 0 ≤ x) (hx1 : x < 2 ^ 36) (hy0 : 0 ≤ y) (hy1 : y < 2 ^ 36) : -2 ^ 64 < x ∧ x < 2 ^ 64 ∧ -2 ^ 64 < y ∧ y < 2 ^ 64 ∧ -2 ^ 64 < (if x - y < 0 then -(x - y) else x - y) ∧ (if x - y < 0 then -(x - y) else x - y) < 2 ^ 64 :=
  have h := abs36 hx0 hx1 hy0 hy1
  ⟨gt64 hx0, lt64 hx1, gt64 hy0, lt64 hy1, gt64 h.1, lt64 h.2⟩
/-! rows of limbs: plain facts, no program in sight -/
noncomputable def val (B : Int) : List Int → Int
  | [] => 0
  | x :: r => x + B * val B r
def Limbs (B : Int) (a : List Int) : Prop := ∀ x ∈ a, 0 ≤ x ∧ x < B
def Norm (a : List Int) : Prop := ∀ h : a ≠ [], a.getLast h ≠ 0
def Row (B : Int) (a : List Int) : Prop := Limbs B a ∧ Norm a

theorem val_append (B : Int) (a b : List Int) : val B (a ++ b) = val B a + B ^ a.length * val B b := by
  induction a with
  | nil => simp [val]
  | cons x r ih =>
    simp only [List.cons_append, val, List.length_cons, ih, Int.pow_succ]
    rw [Int.mul_add, Int.add_assoc, ← Int.mul_assoc, Int.mul_comm B (B ^ r.length)]
theorem val_one (B x : Int) : val B [x] = x := by simp [val]
theorem val_zeros (B : Int) (n : Nat) : val B (List.replicate n 0) = 0 := by
  induction n with
  | zero => rfl
  | succ n ih => rw [List.replicate_succ, val, ih]; simp
theorem Limbs.nil {B : Int} : Limbs B [] := fun _ h => nomatch h
theorem Limbs.append {B : Int} {a b : List Int} (ha : Limbs B a) (hb : Limbs B b) : Limbs B (a ++ b) := fun x hx => (List.mem_append.mp hx).elim (ha x) (hb x)
theorem Limbs.one {B x : Int} (h0 : 0 ≤ x) (h1 : x < B) : Limbs B [x] := fun y hy => by rw [List.mem_singleton.mp hy]; exact ⟨h0, h1⟩
theorem Limbs.sub {B : Int} {a b : List Int} (ha : Limbs B a) (h : ∀ x ∈ b, x ∈ a) : Limbs B b := fun x hx => ha x (h x hx)
theorem Limbs.take {B : Int} {a : List Int} (ha : Limbs B a) (n : Nat) : Limbs B (a.take n) := ha.sub fun _ h => List.mem_of_mem_take h
theorem Limbs.drop {B : Int} {a : List Int} (ha : Limbs B a) (n : Nat) : Limbs B (a.drop n) := ha.sub fun _ h => List.mem_of_mem_drop h
theorem Limbs.getD {B : Int} {a : List Int} (ha : Limbs B a) (hB : 0 < B) (i : Nat) : 0 ≤ a.getD i 0 ∧ a.getD i 0 < B := by
  rw [List.getD_eq_getElem?_getD]
  cases h : a[i]? with
  | none => exact ⟨Int.le_refl 0, hB⟩
  | some x => exact ha x (List.mem_of_getElem? h)
theorem Bpow_pos {B : Int} (hB : 0 < B) (n : Nat) : 0 < B ^ n := Int.pow_pos hB
theorem val_nonneg {B : Int} (hB : 0 < B) {a : List Int} (ha : Limbs B a) : 0 ≤ val B a := by
  induction a with
  | nil => exact Int.le_refl 0
  | cons x r ih =>
    have h1 := ih (fun y hy => ha y (.tail _ hy))
    have h2 := (ha x (.head _)).1
    have h3 := Int.mul_nonneg (Int.le_of_lt hB) h1
    simp only [val]; omega
theorem val_lt {B : Int} (hB : 0 < B) {a : List Int} (ha : Limbs B a) : val B a < B ^ a.length := by
  induction a with
  | nil => simp [val]
  | cons x r ih =>
    have h1 := ih (fun y hy => ha y (.tail _ hy))
    have h2 := (ha x (.head _)).2
    have h3 := Int.mul_le_mul_of_nonneg_left (show val B r + 1 ≤ B ^ r.length by omega) (Int.le_of_lt hB)
    rw [Int.mul_add, Int.mul_one] at h3
    simp only [val, List.length_cons, Int.pow_succ]
    rw [Int.mul_comm (B ^ r.length)]; omega
theorem take_succ_getD {a : List Int} {i : Nat} (h : i < a.length) : a.take (i + 1) = a.take i ++ [a.getD i 0] := by
  rw [List.take_add_one, List.getD_eq_getElem?_getD, List.getElem?_eq_getElem h]; rfl
theorem getD_out {a : List Int} {i : Nat} (h : a.length ≤ i) : a.getD i 0 = 0 := by
  rw [List.getD_eq_getElem?_getD, List.getElem?_eq_none h]; rfl
theorem val_take_succ (B : Int) (a : List Int) (i : Nat) : val B (a.take (i + 1)) = val B (a.take i) + B ^ i * a.getD i 0 := by
  by_cases h : i < a.length
  · rw [take_succ_getD h, val_append, val_one, List.length_take, Nat.min_eq_left (by omega)]
  · rw [List.take_of_length_le (by omega), List.take_of_length_le (by omega), getD_out (by omega)]; simp
theorem val_take_drop (B : Int) (a : List Int) (n : Nat) (h : n ≤ a.length) : val B a = val B (a.take n) + B ^ n * val B (a.drop n) := by
  have := val_append B (a.take n) (a.drop n)
  rw [List.take_append_drop, List.length_take, Nat.min_eq_left h] at this
  exact this

theorem Norm.nil : Norm [] := fun h => absurd rfl h
theorem norm_append {a b : List Int} (hb : b ≠ []) (h : Norm b) : Norm (a ++ b) := fun hn => by
  rw [List.getLast_append_of_ne_nil hn hb]; exact h hb
theorem norm_one {x : Int} (h : x ≠ 0) : Norm [x] := fun _ => by simpa using h
theorem Norm.drop {a : List Int} (h : Norm a) (n : Nat) : Norm (a.drop n) := fun hn => by
  have hn' : a ≠ [] := fun e => hn (by rw [e]; simp)
  rw [List.getLast_drop]; exact h hn'
theorem Row.drop {B : Int} {a : List Int} (h : Row B a) (n : Nat) : Row B (a.drop n) := ⟨h.1.drop n, h.2.drop n⟩

/-- a row of n + 1 limbs or more is at least B ^ n -/
theorem Row.ge {B : Int} (hB : 0 < B) {a : List Int} (h : Row B a) (hn : a ≠ []) : B ^ (a.length - 1) ≤ val B a := by
  have e := List.dropLast_concat_getLast hn
  have hl := h.2 hn
  have hm := h.1 (a.getLast hn) (List.getLast_mem hn)
  have hv := val_append B a.dropLast [a.getLast hn]
  rw [e, val_one, List.length_dropLast] at hv
  have h0 : 0 ≤ val B a.dropLast := val_nonneg hB (h.1.sub fun _ q => List.dropLast_subset _ q)
  have h1 : 1 ≤ a.getLast hn := by omega
  have h2 := Int.mul_le_mul_of_nonneg_left h1 (Int.le_of_lt (Bpow_pos hB (a.length - 1)))
  rw [Int.mul_one] at h2
  omega
theorem norm_of_ge {B : Int} (hB : 0 < B) {a : List Int} (h : Limbs B a) (hg : a ≠ [] → B ^ (a.length - 1) ≤ val B a) : Norm a := fun hn hz => by
  have e := List.dropLast_concat_getLast hn
  have hv := val_append B a.dropLast [a.getLast hn]
  rw [e, val_one, hz, Int.mul_zero, Int.add_zero] at hv
  have := val_lt hB (h.sub fun x (q : x ∈ a.dropLast) => List.dropLast_subset _ q)
  rw [List.length_dropLast] at this
  have := hg hn
  omega
theorem pow_le {B : Int} (hB : 1 < B) {m n : Nat} (h : m ≤ n) : B ^ m ≤ B ^ n := by
  obtain ⟨k, rfl⟩ := Nat.exists_eq_add_of_le h
  have h1 := Bpow_pos (show 0 < B by omega) k
  have h2 := Int.mul_le_mul_of_nonneg_left (show 1 ≤ B ^ k by omega) (Int.le_of_lt (Bpow_pos (show 0 < B by omega) m))
  rw [Int.pow_add]; omega
theorem Row.len_le {B : Int} (hB : 1 < B) {a b : List Int} (ha : Row B a) (hb : Limbs B b) (h : val B a ≤ val B b) : a.length ≤ b.length := by
  by_cases hn : a = []
  · simp [hn]
  · have h1 := ha.ge (by omega) hn
    have h2 := val_lt (by omega) hb
    by_cases hl : a.length ≤ b.length
    · exact hl
    · have := pow_le hB (show b.length ≤ a.length - 1 by omega)
      omega
theorem val_inj {B : Int} (hB : 0 < B) : ∀ {a b : List Int}, Limbs B a → Limbs B b → a.length = b.length → val B a = val B b → a = b
  | [], [], _, _, _, _ => rfl
  | x :: r, y :: t, ha, hb, hl, hv => by
    simp only [val] at hv
    have hx := ha x (.head _)
    have hy := hb y (.head _)
    have e1 : x = y := by
      have h1 : (x + B * val B r) % B = x := by rw [Int.add_mul_emod_self_left]; exact Int.emod_eq_of_lt hx.1 hx.2
      have h2 : (y + B * val B t) % B = y := by rw [Int.add_mul_emod_self_left]; exact Int.emod_eq_of_lt hy.1 hy.2
      rw [← h1, ← h2, hv]
    have e2 : val B r = val B t := by
      rw [e1] at hv
      exact Int.eq_of_mul_eq_mul_left (show B ≠ 0 by omega) (by omega)
    rw [e1, val_inj hB (fun z hz => ha z (.tail _ hz)) (fun z hz => hb z (.tail _ hz)) (by simpa using hl) e2]
theorem Row.inj {B : Int} (hB : 1 < B) {a b : List Int} (ha : Row B a) (hb : Row B b) (h : val B a = val B b) : a = b :=
  val_inj (by omega) ha.1 hb.1 (Nat.le_antisymm (ha.len_le hB hb.1 (by omega)) (hb.len_le hB ha.1 (by omega))) h

/-! normal -/
def Nrm (a m : List Int) : Prop := ∃ k, k ≤ a.length ∧ m = a.take k ∧ (∀ j, k ≤ j → a.getD j 0 = 0) ∧ (0 < k → a.getD (k - 1) 0 ≠ 0)
theorem Nrm.norm {a m : List Int} (h : Nrm a m) : Norm m := by
  obtain ⟨k, hk, rfl, _, hz⟩ := h
  intro hn
  have h0 : 0 < k := by
    rcases Nat.eq_zero_or_pos k with e | e
    · exact absurd (by rw [e]; rfl) hn
    · exact e
  have := hz h0
  rw [List.getLast_eq_getElem]
  simp only [List.length_take, Nat.min_eq_left hk, List.getElem_take]
  rw [List.getD_eq_getElem?_getD, List.getElem?_eq_getElem (by omega)] at this
  exact this
theorem val_zero_of {B : Int} : ∀ {a : List Int}, (∀ j, a.getD j 0 = 0) → val B a = 0
  | [], _ => rfl
  | x :: r, h => by
    have h0 := h 0
    have h1 := val_zero_of (B := B) (a := r) fun j => by simpa using h (j + 1)
    simp only [List.getD_cons_zero] at h0
    simp [val, h0, h1]
theorem Nrm.val {a m : List Int} (h : Nrm a m) (B : Int) : val B m = val B a := by
  obtain ⟨k, hk, rfl, hz, _⟩ := h
  rw [val_take_drop B a k hk, val_zero_of (a := a.drop k) fun j => ?_]
  · simp
  · have := hz (k + j) (by omega)
    rw [List.getD_eq_getElem?_getD] at this ⊢
    rw [List.getElem?_drop]; exact this
theorem Nrm.row {a m : List Int} (h : Nrm a m) {B : Int} (ha : Limbs B a) : Row B m := by
  refine ⟨?_, h.norm⟩
  obtain ⟨k, hk, rfl, _, _⟩ := h
  exact ha.take k
theorem Nrm.len {a m : List Int} (h : Nrm a m) : m.length ≤ a.length := by
  obtain ⟨k, hk, rfl, _, _⟩ := h
  rw [List.length_take]; omega

/-! compare -/
def Cmp (a b : List Int) (r : Int) : Prop := (a.length < b.length ∧ r = -1) ∨ (b.length < a.length ∧ r = 1) ∨ (a.length = b.length ∧ ((a = b ∧ r = 0) ∨
  ∃ i < a.length, (∀ j, i < j → a.getD j 0 = b.getD j 0) ∧ ((a.getD i 0 < b.getD i 0 ∧ r = -1) ∨ (b.getD i 0 < a.getD i 0 ∧ r = 1))))
theorem lt_of_top {B : Int} (hB : 0 < B) {a b : List Int} (ha : Limbs B a) (hb : Limbs B b) (hl : a.length = b.length) {i : Nat} (hi : i < a.length) (he : ∀ j, i < j → a.getD j 0 = b.getD j 0) (h : a.getD i 0 < b.getD i 0) : val B a < val B b := by
  have e1 := val_take_drop B a (i + 1) (by omega)
  have e2 := val_take_drop B b (i + 1) (by omega)
  have ed : a.drop (i + 1) = b.drop (i + 1) := by
    apply List.ext_getElem
    · simp [hl]
    · intro n h1 h2
      have := he (i + 1 + n) (by omega)
      simp only [List.length_drop] at h1 h2
      rw [List.getD_eq_getElem?_getD, List.getD_eq_getElem?_getD, List.getElem?_eq_getElem (by omega), List.getElem?_eq_getElem (by omega)] at this
      simpa using this
  rw [val_take_succ] at e1 e2
  rw [ed] at e1
  have h1 := val_lt hB (ha.take i)
  have h2 := val_nonneg hB (hb.take i)
  rw [List.length_take, Nat.min_eq_left (by omega)] at h1
  have h3 := Int.mul_le_mul_of_nonneg_left (show a.getD i 0 + 1 ≤ b.getD i 0 by omega) (Int.le_of_lt (Bpow_pos hB i))
  rw [Int.mul_add, Int.mul_one] at h3
  omega
theorem Cmp.neg {B : Int} (hB : 1 < B) {a b : List Int} {r : Int} (h : Cmp a b r) (ha : Row B a) (hb : Row B b) : r < 0 ↔ val B a < val B b := by
  have h0 : 0 < B := by omega
  rcases h with ⟨h, rfl⟩ | ⟨h, rfl⟩ | ⟨hl, ⟨rfl, rfl⟩ | ⟨i, hi, he, ⟨h, rfl⟩ | ⟨h, rfl⟩⟩⟩
  · refine ⟨fun _ => ?_, fun _ => by omega⟩
    by_cases q : val B b ≤ val B a
    · have := hb.len_le hB ha.1 q; omega
    · omega
  · refine ⟨fun q => by omega, fun q => ?_⟩
    have := ha.len_le hB hb.1 (by omega); omega
  · omega
  · have := lt_of_top h0 ha.1 hb.1 hl hi he h; omega
  · have := lt_of_top h0 hb.1 ha.1 hl.symm (by omega) (fun j hj => (he j hj).symm) h; omega

/-! add -/
def AddI (B : Int) (a b : List Int) (i : Nat) (m : List Int) (c : Int) : Prop :=
  m.length = i ∧ Limbs B m ∧ 0 ≤ c ∧ c ≤ 1 ∧ val B m + B ^ i * c = val B (a.take i) + val B (b.take i)
theorem AddI.zero (B : Int) (a b : List Int) : AddI B a b 0 [] 0 := ⟨rfl, Limbs.nil, by omega, by omega, by simp [val]⟩
theorem AddI.step {B : Int} (hB : 1 < B) {a b : List Int} (ha : Limbs B a) (hb : Limbs B b) {i : Nat} {m : List Int} {c : Int} (h : AddI B a b i m c) :
    AddI B a b (i + 1) (m ++ [(c + (a.getD i 0 + b.getD i 0)) % B]) ((c + (a.getD i 0 + b.getD i 0)) / B) := by
  obtain ⟨hl, hm, h0, h1, hv⟩ := h
  have hB0 : 0 < B := by omega
  have xa := ha.getD hB0 i
  have xb := hb.getD hB0 i
  generalize hx : c + (a.getD i 0 + b.getD i 0) = x
  have hx0 : 0 ≤ x := by omega
  have hx1 : x < B + B := by omega
  refine ⟨by simp [hl], hm.append (Limbs.one (Int.emod_nonneg _ (by omega)) (Int.emod_lt_of_pos _ hB0)), Int.ediv_nonneg hx0 (by omega), ?_, ?_⟩
  · have : x / B < 2 := Int.ediv_lt_of_lt_mul hB0 (by omega)
    omega
  · rw [val_append, val_one, hl, val_take_succ, val_take_succ]
    have e := Int.emod_add_mul_ediv x B
    have e2 : B ^ (i + 1) * (x / B) = B ^ i * (B * (x / B)) := by rw [Int.pow_succ, Int.mul_assoc]
    have e3 : B ^ i * (x % B) + B ^ i * (B * (x / B)) = B ^ i * x := by rw [← Int.mul_add, e]
    have e4 : B ^ i * x = B ^ i * c + (B ^ i * a.getD i 0 + B ^ i * b.getD i 0) := by rw [← hx, Int.mul_add, Int.mul_add]
    omega
theorem AddI.done {B : Int} (hB : 1 < B) {a b : List Int} (ha : Row B a) (hb : Row B b) (hl : b.length ≤ a.length) {m : List Int} {c : Int} (h : AddI B a b a.length m c) :
    Row B (m ++ if 0 < c then [c] else []) ∧ val B (m ++ if 0 < c then [c] else []) = val B a + val B b ∧ (m ++ if 0 < c then [c] else []).length ≤ a.length + 1 := by
  obtain ⟨hm, hL, h0, h1, hv⟩ := h
  rw [List.take_of_length_le (Nat.le_refl _), List.take_of_length_le hl] at hv
  by_cases hc : 0 < c
  · rw [if_pos hc]
    have e : c = 1 := by omega
    subst e
    refine ⟨⟨hL.append (Limbs.one (by omega) hB), norm_append (by simp) (norm_one (by omega))⟩, ?_, by simp [hm]⟩
    rw [val_append, val_one, hm]; exact hv
  · rw [if_neg hc, List.append_nil]
    have e : c = 0 := by omega
    rw [e, Int.mul_zero, Int.add_zero] at hv
    refine ⟨⟨hL, norm_of_ge (by omega) hL fun hn => ?_⟩, hv, by omega⟩
    have hn' : a ≠ [] := fun q => hn (List.eq_nil_of_length_eq_zero (by rw [hm, q]; rfl))
    have h2 := ha.ge (show 0 < B by omega) hn'
    have h3 := val_nonneg (show 0 < B by omega) hb.1
    rw [hm]; omega

/-! sub -/
def SubI (B : Int) (a b : List Int) (i : Nat) (m : List Int) (c : Int) : Prop :=
  m.length = i ∧ Limbs B m ∧ (c = 0 ∨ c = 1) ∧ val B m - B ^ i * c = val B (a.take i) - val B (b.take i)
theorem SubI.zero (B : Int) (a b : List Int) : SubI B a b 0 [] 0 := ⟨rfl, Limbs.nil, .inl rfl, by simp [val]⟩
theorem SubI.step {B : Int} (hB : 1 < B) {a b : List Int} (ha : Limbs B a) (hb : Limbs B b) {i : Nat} {m : List Int} {c x : Int} (h : SubI B a b i m c) (hx : x = a.getD i 0 - c - b.getD i 0) :
    SubI B a b (i + 1) (m ++ [if x < 0 then x + B else x]) (if x < 0 then 1 else 0) := by
  obtain ⟨hl, hm, hc, hv⟩ := h
  have hB0 : 0 < B := by omega
  have xa := ha.getD hB0 i
  have xb := hb.getD hB0 i
  have e4 : B ^ i * x = B ^ i * a.getD i 0 - B ^ i * c - B ^ i * b.getD i 0 := by rw [hx, Int.mul_sub, Int.mul_sub]
  have e5 : B ^ (i + 1) * 1 = B ^ i * B := by rw [Int.pow_succ, Int.mul_one]
  by_cases hn : x < 0
  · rw [if_pos hn, if_pos hn]
    refine ⟨by simp [hl], hm.append (Limbs.one (by omega) (by omega)), .inr rfl, ?_⟩
    rw [val_append, val_one, hl, val_take_succ, val_take_succ, Int.mul_add, e5]; omega
  · rw [if_neg hn, if_neg hn]
    refine ⟨by simp [hl], hm.append (Limbs.one (by omega) (by omega)), .inl rfl, ?_⟩
    rw [val_append, val_one, hl, val_take_succ, val_take_succ, Int.mul_zero]; omega
theorem SubI.done {B : Int} (hB : 1 < B) {a b : List Int} (ha : Row B a) (hb : Row B b) (hle : val B b ≤ val B a) {m : List Int} {c : Int} (h : SubI B a b a.length m c) :
    Limbs B m ∧ val B m = val B a - val B b ∧ m.length = a.length := by
  obtain ⟨hl, hm, hc, hv⟩ := h
  have hlen := hb.len_le hB ha.1 hle
  rw [List.take_of_length_le (Nat.le_refl _), List.take_of_length_le hlen] at hv
  have h1 := val_lt (show 0 < B by omega) hm
  rw [hl] at h1
  rcases hc with rfl | rfl
  · rw [Int.mul_zero] at hv; exact ⟨hm, by omega, hl⟩
  · rw [Int.mul_one] at hv; omega

/-! add_at -/
theorem zeros_limbs {B : Int} (hB : 0 < B) (n : Nat) : Limbs B (List.replicate n 0) := fun x hx => by
  rw [(List.mem_replicate.mp hx).2]; exact ⟨Int.le_refl 0, hB⟩
theorem addAt2 {B : Int} (hB : 1 < B) {a b : List Int} (ha : Row B a) (hb : Row B b) {n k : Nat} (hne : b.length ≠ 0) (hn : a.length + k = n) :
    Row B (a ++ (List.replicate k [0]).flatten ++ b) ∧ val B (a ++ (List.replicate k [0]).flatten ++ b) = val B a + B ^ n * val B b ∧ (a ++ (List.replicate k [0]).flatten ++ b).length ≤ max a.length (n + b.length) + 1 := by
  have e : (List.replicate k [(0 : Int)]).flatten = List.replicate k 0 := by simp
  have hb' : b ≠ [] := fun q => hne (by rw [q]; rfl)
  rw [e]
  refine ⟨⟨(ha.1.append (zeros_limbs (by omega) k)).append hb.1, norm_append hb' hb.2⟩, ?_, ?_⟩
  · rw [val_append, val_append, val_zeros, List.length_append, List.length_replicate, hn]; simp
  · simp only [List.length_append, List.length_replicate]; omega
theorem addAt3 {B : Int} (hB : 1 < B) {a b m : List Int} (ha : Row B a) (hb : Row B b) {n : Nat} (hn : n < a.length) (hm : Row B m) (hv : val B m = val B (a.drop n) + val B b) (hl : m.length ≤ max (a.drop n).length b.length + 1) :
    Row B (a.take n ++ m) ∧ val B (a.take n ++ m) = val B a + B ^ n * val B b ∧ (a.take n ++ m).length ≤ max a.length (n + b.length) + 1 := by
  have h0 : 0 < B := by omega
  have hd : a.drop n ≠ [] := fun q => by
    have := congrArg List.length q
    simp at this; omega
  have hm' : m ≠ [] := fun q => by
    have h1 := (ha.drop n).ge h0 hd
    have h2 := Bpow_pos h0 ((a.drop n).length - 1)
    have h3 := val_nonneg h0 hb.1
    rw [q] at hv
    simp only [val] at hv
    omega
  refine ⟨⟨(ha.1.take n).append hm.1, norm_append hm' hm.2⟩, ?_, ?_⟩
  · rw [val_append, List.length_take, Nat.min_eq_left (by omega), hv, val_take_drop B a n (by omega), Int.mul_add]; omega
  · simp only [List.length_append, List.length_take, List.length_drop] at hl ⊢; exact add_len hn hl
theorem row_nil {B : Int} : Row B [] := ⟨Limbs.nil, Norm.nil⟩

/-! a number's row -/
def RowI (B n : Int) (m : List Int) (c : Int) : Prop := Limbs B m ∧ 0 ≤ c ∧ val B m + B ^ m.length * c = n ∧ (c = 0 → Norm m) ∧ m.length ≤ 512 ∧ c < 2 ^ (512 - m.length)
theorem RowI.zero {B n : Int} (h0 : 0 ≤ n) (h1 : n < 2 ^ 512) : RowI B n [] n := ⟨Limbs.nil, h0, by simp [val], fun _ => Norm.nil, by simp, by simpa using h1⟩
theorem RowI.step {B n : Int} (hB : 1 < B) {m : List Int} {c : Int} (h : RowI B n m c) (hc : 0 < c) : RowI B n (m ++ [c % B]) (c / B) ∧ c / B < c ∧ m.length < 512 := by
  obtain ⟨hm, h0, hv, _, hl, hb⟩ := h
  have hB0 : 0 < B := by omega
  have hr0 := Int.emod_nonneg c (show B ≠ 0 by omega)
  have hr1 := Int.emod_lt_of_pos c hB0
  have e := Int.emod_add_mul_ediv c B
  have hq0 : 0 ≤ c / B := Int.ediv_nonneg h0 (by omega)
  have hq2 : 2 * (c / B) ≤ B * (c / B) := Int.mul_le_mul_of_nonneg_right (by omega) hq0
  have hlt : m.length < 512 := by
    by_cases q : m.length < 512
    · exact q
    · rw [Nat.sub_eq_zero_of_le (Nat.le_of_not_lt q)] at hb
      simp at hb; omega
  refine ⟨⟨hm.append (Limbs.one hr0 hr1), hq0, ?_, fun hz => ?_, by simp; omega, ?_⟩, by omega, hlt⟩
  · rw [val_append, val_one, List.length_append, List.length_cons, List.length_nil, Int.pow_succ, Int.mul_assoc]
    have e2 : B ^ m.length * (c % B) + B ^ m.length * (B * (c / B)) = B ^ m.length * c := by rw [← Int.mul_add, e]
    omega
  · exact norm_append (by simp) (norm_one (by rw [hz] at e; omega))
  · rw [List.length_append, List.length_cons, List.length_nil]
    obtain ⟨k, hk, hk2⟩ := sub_split hlt
    rw [hk, Int.pow_succ] at hb
    rw [hk2]
    clear hk hk2 hlt hl hv
    omega
theorem RowI.done {B n : Int} {m : List Int} {c : Int} (h : RowI B n m c) (hc : ¬ 0 < c) : Row B m ∧ val B m = n := by
  obtain ⟨hm, h0, hv, hn, _, _⟩ := h
  have e : c = 0 := by omega
  subst e
  exact ⟨⟨hm, hn rfl⟩, by simpa using hv⟩
end Mine
namespace Mine
open PyProof.V PySem.Spec PyProof.Rows.LCg
section
variable {prog : Program} {w : World} {A : Around} {E : Value → Shared → Prop} {s : Shared} {env : Env}
/-- what a list comprehension over enumerate(l) asks -/
structure EnRest (prog : Program) (w : World) (A : Around) (env : Env) (elt : PySem.Expr) (a b : Str) (scope : Scope) (cl : List (Str × Addr)) (ns : List Int) (e it : Addr) (P : Nat → List Int → Prop) (Q : Value → Shared → Prop) (s₁ : Shared) : Prop where
  zero : P 0 []
  step : ∀ (i : Nat) (ms : List Int) C h tk m₂ t t' (E' : Value → Shared → Prop), i < ns.length → P i ms → s₁.heap.get? C = none → h.Ns C m₂ → m₂ a = some (.int (i : Int) t) → m₂ b = some (.int (ns.getD i 0) t') →
    (∀ c o, c ≠ e → c ≠ it → s₁.heap.get? c = some o → h.get? c = some o) →
    wpAny (model prog w) A (eval elt (compEnvC scope cl C env)) (fun y s' => ∃ x tx tk', y = .int x tx ∧ s' = { s₁ with heap := h, toks := tk' } ∧ P (i + 1) (ms ++ [x])) E' { s₁ with heap := h, toks := tk }
  done : ∀ D us ms h' tk, s₁.heap.get? D = none → h'.get? D = some (listOf (List.toArray us) us.length) → IntsAre us ms → P ns.length ms →
    (∀ c o, c ≠ e → c ≠ it → s₁.heap.get? c = some o → h'.get? c = some o) → Q (.ref D) { s₁ with heap := h', toks := tk }

inductive EnSrc (prog : Program) (w : World) (A : Around) (env : Env) (elt : PySem.Expr) (a b : Str) (scope : Scope) (cl : List (Str × Addr)) (l : Addr) (vs : List Value) (ns : List Int) (P : Nat → List Int → Prop) (Q : Value → Shared → Prop) (xv : Value) (s₁ : Shared) : Prop
  | mk  (e : Addr) (it : Addr) (old : Value) (hq0 : xv = .ref e) (hq1 : IsEnum s₁.heap e it 0 old) (hq2 : s₁.heap.IsListIter it l 0) (hq3 : s₁.heap.IsList l vs.toArray) (hq4 : e ≠ it) (hq5 : l ≠ e) (hq6 : l ≠ it) (hq7 : EnRest prog w A env elt a b scope cl ns e it P Q s₁) : EnSrc prog w A env elt a b scope cl l vs ns P Q xv s₁
inductive EnInv (s₁ : Shared) (e it l : Addr) (vs : List Value) (ns : List Int) (P : Nat → List Int → Prop) (C D : Addr) (k : Nat) (s' : Shared) : Prop
  | mk (h' : Heap) (tk : Nat) (i : Nat) (us : List Value) (ms : List Int) (m' : Str → Option Value) (hq0 : s' = { s₁ with heap := h', toks := tk }) (hq1 : i ≤ ns.length) (hq2 : k = ns.length + 1 - i) (hq3 : us.length = i) (hq4 : IntsAre us ms) (hq5 : P i ms)
    (hq6 : (∃ old, IsEnum h' e it i old) ∧ h'.IsListIter it l i ∧ h'.IsList l vs.toArray) (hq7 : h'.Ns C m') (hq8 : h'.get? D = some (listOf (List.toArray us) us.length)) (hq9 : ∀ c o, c ≠ e → c ≠ it → s₁.heap.get? c = some o → h'.get? c = some o) : EnInv s₁ e it l vs ns P C D k s'
theorem lc_enum {elt iter : PySem.Expr} {a b : Str} {pa pb tp pos : Pos} {kk : Nat} {scope : Scope} {cl : List (Str × Addr)} {l : Addr} {vs : List Value} {ns : List Int} {Q : Value → Shared → Prop} (P : Nat → List Int → Prop) (hh : A.handled = none)
    (hclos : closureFor scope env = pure cl) (hcell : ∀ y ∈ scope.names, y.2 ≠ .cell) (hkind : scope.kind = .function)
    (hnames : ∀ y ∈ scope.names, y.2 = .local → scope.names.lookup y.1 = some .local) (hxa : scope.names.lookup a = some .local) (hxb : scope.names.lookup b = some .local) (hab : ¬ a = b)
    (hi : IntsAre vs ns) (hz : ns.length ≤ 10000)
    (h : wpAny (model prog w) A (eval iter env) (EnSrc prog w A env elt a b scope cl l vs ns P Q) E s)
    (hs : ∀ x, foldedSetIterable iter env x = pure x) :
    wpAny (model prog w) A (eval (.ListComp elt [⟨.Tuple [.Name a pa, .Name b pb] kk tp, iter, [], 0⟩] scope pos) env) Q E s := by
  rw [eval_ListComp]
  refine wpAny_comprehension_free (use := none) rfl hs hclos hkind hnames (wpAny_mono h (fun xv s₁ h₁ => ?_) fun _ _ z => z)
  obtain ⟨e, it, old, rfl, hE, hI, hL, hei, hle, hli, R⟩ := h₁
  refine wpAny_pyIter_enum hE ?_
  refine wpAny_newObj_type (wpAny_newFunctionEnv hcell (by intro y hy; simp at hy) (fun h₁ hns₁ hsb₁ => ?_) hkind)
  dsimp only at hns₁ hsb₁ ⊢
  have hD1 : (s₁.heap.push (listOf ([] : List Value).toArray 0)).get? s₁.heap.objs.size = some (listOf ([] : List Value).toArray 0) := Heap.get?_push_size _ rfl
  have hC : (s₁.heap.push (listOf ([] : List Value).toArray 0)).objs.size = s₁.heap.objs.size + 1 := Heap.size_push ..
  generalize hH2 : s₁.heap.push (listOf ([] : List Value).toArray 0) = H2 at hD1 hC
  replace hns₁ : h₁.Ns H2.objs.size (fun x => (([] : List (Str × Value))).reverse.lookup x) := by rw [← hH2]; exact hns₁
  have up₁ : ∀ c o, c ≠ H2.objs.size → H2.get? c = some o → h₁.get? c = some o := fun c o hc ho => by
    rw [← hH2] at hc ho
    exact hsb₁.extBut c o hc (Heap.get?_push_of_some _ ho)
  have old₁ : ∀ c o, s₁.heap.get? c = some o → h₁.get? c = some o := fun c o ho => up₁ c o (by have := Heap.lt_size ho; rw [hC]; exact Nat.ne_of_lt (Nat.lt_succ_of_lt this)) (by rw [← hH2]; exact Heap.get?_push_of_some _ ho)
  have below : ∀ c o, s₁.heap.get? c = some o → c ≠ H2.objs.size ∧ c ≠ s₁.heap.objs.size := fun c o ho => by
    have := Heap.lt_size ho
    exact ⟨by rw [hC]; exact Nat.ne_of_lt (Nat.lt_succ_of_lt this), Nat.ne_of_lt this⟩
  have fresh : ∀ c, s₁.heap.objs.size ≤ c → s₁.heap.get? c = none := fun c hc => by
    cases q : s₁.heap.get? c with
    | none => rfl
    | some o => exact absurd (Heap.lt_size q) (Nat.not_lt.mpr hc)
  have hDC : s₁.heap.objs.size ≠ H2.objs.size := by rw [hC]; exact Nat.ne_of_lt (Nat.lt_succ_self _)
  obtain ⟨oi, hoi, _⟩ := id hI
  obtain ⟨ol, hol, _⟩ := id hL
  have be := below e _ hE
  have bi := below it _ hoi
  have bl := below l _ hol
  have W := WalksT.enumerate (prog := prog) (w := w) hh e it l hei hle hli vs.toArray
  have hsz : vs.toArray.size = ns.length := by rw [List.size_toArray, hi.length]
  have hline : sizeLine = 16777216 := rfl
  have loop : ∀ s₃ : Shared, s₃ = { s₁ with heap := h₁, toks := s₁.toks + ([] : List (Str × Value)).length } →
      codeAny (model prog w) A (.compLoop (.ListComp elt [⟨.Tuple [.Name a pa, .Name b pb] kk tp, iter, [], 0⟩] scope pos) 0 (.ref e) (.ref s₁.heap.objs.size) (compEnvC scope cl H2.objs.size env))
        (compPost (model prog w) A E none Q (.ref s₁.heap.objs.size) H2.objs.size) s₃ := by
    rintro s₃ rfl
    refine kcp_loop (EnInv s₁ e it l vs ns P H2.objs.size s₁.heap.objs.size) ?_ (ns.length + 1)
      ⟨h₁, _, 0, [], [], _, rfl, Nat.zero_le _, rfl, rfl, IntsAre.nil, R.zero, ⟨⟨old, old₁ _ _ hE⟩, hI.at fun o q => old₁ _ o q, hL.at fun o q => old₁ _ o q⟩, hns₁, up₁ _ _ hDC hD1, fun c o _ _ ho => old₁ c o ho⟩
    rintro k s' ⟨h', tk, i, us, ms, m', rfl, hile, rfl, hul, hI', hP, hst, hn', hD', hk'⟩
    by_cases hlt : i < ns.length
    · refine W.item i _ _ _ (by rw [hsz]; exact hlt) hst fun T vals h₂ tk₂ hPt hTle hT hMd hk₂ => ?_
      refine W.go _ _ _ i T _ _ _ hMd fun h₃ hst₃ hk₃ => ?_
      obtain ⟨t, x, hx, rfl⟩ := hPt
      obtain ⟨t', hx'⟩ := hi.get i (ns.getD i 0) (by rw [List.getD_eq_getElem?_getD, List.getElem?_eq_getElem hlt]; rfl)
      have hxe : x = .int (ns.getD i 0) t' := by
        have q : vs[i]? = some x := by simpa using hx
        rw [hx'] at q; exact (Option.some.inj q).symm
      subst hxe
      have up₃ : ∀ c o, c ≠ e → c ≠ it → h'.get? c = some o → h₃.get? c = some o := fun c o h1 h2 q => hk₃ c o (by simp [h1, h2]) (hk₂ c o (by simp [h1, h2]) q)
      have hT3 : h₃.IsTuple T #[.int (i : Int) t, .int (ns.getD i 0) t'] := by
        have hTw := W.apart i T h₂ hMd
        obtain ⟨oT, qT, rT⟩ := hT
        exact ⟨oT, hk₃ T oT hTw qT, rT⟩
      refine kcp_assign (env := compEnvC scope cl H2.objs.size env) hh hT3 (lookup_relabel_local hxa) (lookup_relabel_local hxb) (by simp [compEnvC, relabel, hkind]) (hn'.at' fun o q => up₃ _ o (Ne.symm be.1) (Ne.symm bi.1) q) fun h₄ tk₄ hn₄ hs₄ => ?_
      have up₄ : ∀ c o, c ≠ e → c ≠ it → c ≠ H2.objs.size → h'.get? c = some o → h₄.get? c = some o := fun c o h1 h2 h3 q => hs₄ c o h3 (up₃ c o h1 h2 q)
      refine wpAny_mono (R.step i ms H2.objs.size h₄ _ _ t t' _ hlt hP (fresh _ (by rw [hC]; exact Nat.le_succ _)) hn₄ (by simp [hab]) (by simp) (fun c o h1 h2 q => up₄ c o h1 h2 (below c o q).1 (hk' c o h1 h2 q))) (fun y s₅ h₅ => ?_) fun _ _ z => z
      obtain ⟨x, tx, tk₅, rfl, rfl, hP'⟩ := h₅
      have hst₄ : ((∃ old, IsEnum h₄ e it ((i + 1 : Nat) : Int) old) ∧ h₄.IsListIter it l (i + 1) ∧ h₄.IsList l vs.toArray) := by
        obtain ⟨⟨old', q1⟩, q2, q3⟩ := hst₃
        exact ⟨⟨old', hs₄ e _ be.1 q1⟩, q2.at fun o q => hs₄ it o bi.1 q, q3.at fun o q => hs₄ l o bl.1 q⟩
      have hD₄ : h₄.get? s₁.heap.objs.size = some (listOf (List.toArray us) us.length) := up₄ _ _ (Ne.symm be.2) (Ne.symm bi.2) hDC hD'
      refine append_at (hsz := by rw [List.size_toArray]; omega) hD₄ fun h₆ hs₆ hD₆ => ?_
      refine ⟨ns.length + 1 - (i + 1), by omega, h₆, tk₅, i + 1, us ++ [.int x tx], ms ++ [x], _, rfl, hlt, rfl, by rw [List.length_append, hul]; rfl, ints_snoc hI' x tx, hP', ?_, hn₄.sameBut hs₆ (Ne.symm hDC), ?_, ?_⟩
      · obtain ⟨⟨old', q1⟩, q2, q3⟩ := hst₄
        exact ⟨⟨old', hs₆.extBut _ _ be.2 q1⟩, q2.at fun o q => hs₆.extBut _ _ bi.2 q, q3.at fun o q => hs₆.extBut _ _ bl.2 q⟩
      · rw [hD₆, List.push_toArray, List.length_append]; rfl
      · intro c o h1 h2 q
        exact hs₆.extBut c o (below c o q).2 (up₄ c o h1 h2 (below c o q).1 (hk' c o h1 h2 q))
    · have hin : i = ns.length := by omega
      subst hin
      refine W.done _ _ _ (by rw [hsz]; exact hst) fun h₂ tk₂ hk₂ => ?_
      have up₂ : ∀ c o, c ≠ e → c ≠ it → h'.get? c = some o → h₂.get? c = some o := fun c o h1 h2 q => hk₂ c o (by simp [h1, h2]) q
      refine ⟨m', hn'.at' fun o q => up₂ _ o (Ne.symm be.1) (Ne.symm bi.1) q, fun h₃ hs₃ => ?_⟩
      refine R.done s₁.heap.objs.size us ms h₃ _ (fresh _ (Nat.le_refl _)) (hs₃.extBut _ _ hDC (up₂ _ _ (Ne.symm be.2) (Ne.symm bi.2) hD')) hI' hP fun c o h1 h2 q => ?_
      exact hs₃.extBut c o (below c o q).1 (up₂ c o h1 h2 (hk' c o h1 h2 q))
  subst hH2
  exact codeAny_compStart_list (loop _ rfl) (wpAny_pyIter_enum (old₁ _ _ hE) (loop _ rfl))
end
theorem base_le {w : Int} (h1 : w ≤ 9) : (2 : Int) ^ w.toNat ≤ 512 := by
  have := pow_le (B := 2) (by decide) (show w.toNat ≤ 9 by omega)
  simpa using this
theorem pow_place (w : Int) (i : Nat) (h : 0 ≤ w) : (2 : Int) ^ (w * (i : Int)).toNat = (2 ^ w.toNat) ^ i := by
  have e : (w * (i : Int)).toNat = w.toNat * i := by
    obtain ⟨n, rfl⟩ := Int.eq_ofNat_of_zero_le h
    rw [← Int.natCast_mul]; rfl
  rw [e, Int.pow_mul]
theorem enumAt {prog : Program} {w : World} {A : Around} {E : Value → Shared → Prop} {s : Shared} {h₀ : Heap} {L l : Addr} {m : Str → Option Value} {vs : List Value} {Q : Value → Shared → Prop} (F : Fr h₀ L s.heap m) (hL : h₀.IsList l vs.toArray)
    (h : ∀ e it h', IsEnum h' e it 0 .none → h'.IsListIter it l 0 → h'.IsList l vs.toArray → Fr h₀ L h' m → Kept [] s.heap h' → e ≠ it → l ≠ e → l ≠ it → (∀ c o, s.heap.get? c = some o → c ≠ e ∧ c ≠ it) → (∀ c ∈ [e, it], c ≠ L ∧ h₀.get? c = none) → Q (.ref e) { s with heap := h' }) :
    wpAny (model prog w) A (call (.type "enumerate") [.ref l]) Q E s := by
  have hl := Fr.lst F hL
  have hlt : l < s.heap.objs.size := by obtain ⟨_, q, _⟩ := hl; exact Heap.lt_size q
  have fr : ∀ c o, s.heap.get? c = some o → c ≠ s.heap.objs.size + 1 ∧ c ≠ s.heap.objs.size := fun c o q => ⟨Nat.ne_of_lt (Nat.lt_succ_of_lt (Heap.lt_size q)), Nat.ne_of_lt (Heap.lt_size q)⟩
  have no : ∀ c, s.heap.objs.size ≤ c → c ≠ L ∧ h₀.get? c = none := fun c hc => by
    refine ⟨fun q => ?_, ?_⟩
    · have := F.ns.lt; rw [← q] at this; exact absurd this (Nat.not_lt.mpr hc)
    · cases q : h₀.get? c with
      | none => rfl
      | some o => exact absurd (Heap.lt_size (F.keep c o q)) (Nat.not_lt.mpr hc)
  refine call_enumerate_list hl fun h' he hi _ hk => h _ _ h' he hi (hl.at fun o x => hk l o x) (F.keeps hk) (fun c o _ q => hk c o q) (Nat.succ_ne_self _) (Nat.ne_of_lt (Nat.lt_succ_of_lt hlt)) (Nat.ne_of_lt hlt) fr fun c hc => ?_
  rcases List.mem_cons.mp hc with rfl | hc
  · exact no _ (Nat.le_succ _)
  · rw [List.mem_singleton.mp hc]; exact no _ (Nat.le_refl _)
section
variable {M : Model} {A : Around} {E : Value → Shared → Prop} {s : Shared} {m : Str → Option Value}
theorem nmNs {env : Env} {x : Str} {pos : Pos} {v : Value} {Q : Value → Shared → Prop} (hn : s.heap.Ns env.locals m) (hl : env.kindOf x = some .local) (hv : m x = some v) (hk : env.scope.kind = .function)
    (hd : (x == ("__debug__" : Str)) = false) (h : Q v s) : wpAny M A (eval (.Name x pos) env) Q E s := wpAny_Name (wpAny_loadName_local hk hl hn hv h) hd
theorem nmCell {env : Env} {x : Str} {pos : Pos} {v : Value} {c : Addr} {o : Obj} {Q : Value → Shared → Prop} (ho : s.heap.get? c = some o) (hdat : o.data = .cell (some v)) (hc : env.cells.lookup x = some c) (hl : env.kindOf x = some .cell) (hk : env.scope.kind = .function)
    (hd : (x == ("__debug__" : Str)) = false) (h : Q v s) : wpAny M A (eval (.Name x pos) env) Q E s := wpAny_Name (wpAny_loadName_cell hk hl hc ⟨o, ho, hdat⟩ h) hd
end
end Mine
namespace Mine
local macro_rules | `(tactic| walk_at "eval Name") => `(tactic| (with_reducible rename Fr _ _ _ _ => kF; k_dflt (refine' nm kF ?L ?l ?v ?k ?d ?_; (case L => exact rfl); (case l => exact rfl); (case v => exact rfl); (case k => exact rfl); (case d => exact rfl))))
local macro_rules | `(tactic| walk_at "exec For Name Call cons nil") => `(tactic| refine stopHere ?_)
local macro_rules | `(tactic| walk_at "exec While Compare cons nil") => `(tactic| refine stopHere ?_)
local macro_rules | `(tactic| walk_at "pyIter ref") => `(tactic| refine stopHere ?_)
local macro_rules | `(tactic| walk_at "InvEndN") => `(tactic| refine stopHere ?_)
local macro_rules | `(tactic| walk_at "LIPost") => `(tactic| (dsimp only [LIPost]))
local macro_rules | `(tactic| walk_at "LIEnd") => `(tactic| refine stopHere ?_)
local macro_rules | `(tactic| walk_at "Done") => `(tactic| refine stopHere ?_)
local macro_rules | `(tactic| k_mem) => `(tactic| first | exact List.Mem.head _ | (refine' List.Mem.tail _ ?_; k_mem) | (refine List.mem_append.mpr (Or.inl ?_); k_mem))
local macro_rules | `(tactic| walk_at "call builtin:list.append") => `(tactic| refine stopHere ?_)
local macro_rules | `(tactic| walk_at "WLPost") => `(tactic| (dsimp only [WLPost]))
local macro_rules | `(tactic| walk_at "WLEnd") => `(tactic| refine stopHere ?_)
local macro_rules | `(tactic| k_ne) => `(tactic| (refine neN ?_; (try dsimp only); first | (refine' AwayFrom.ne ?aa ?mm; (case aa => with_reducible assumption); (case mm => k_mem)) | (refine' Ne.symm (AwayFrom.ne ?aa ?mm); (case aa => with_reducible assumption); (case mm => k_mem)) | (with_reducible assumption) | omega))
local macro_rules | `(tactic| walk_at "call ref") => `(tactic| (k_here; refine stopHere ?_))
local macro_rules | `(tactic| walk_at "spliced") => `(tactic| ((with_reducible rename Fr _ _ _ _ => kF); k_dflt (refine' argsN kF ?L ?k ?v ?_; (case L => exact rfl); (case k => exact rfl); (case v => exact rfl))))
example (w : World) : hd.heap_39 w.params = hd.heap_39 w.params ∧ PySem.Challenge.rw_nn0003_01 = PySem.Challenge.rw_nn0003_01 := by
  k_fill
  exact ⟨rfl, rfl⟩
section
variable {w : World} {p : Program} {loose : List Str} {mean : ExcName → Option Value} {mg mb : Str → Option Value} {b : Heap} {s : Shared}
/-- the pool's list: what is given stands at J, then where it stands, what is drawn behind it -/
inductive PoolO (J : Addr) (o : Obj) : Prop
  | mk  (p1 : Int) (t1 : Tok) (p2 : Int) (t2 : Tok) (e : Nat) (hq0 : o = listOf #[.ref J, .int p1 t1, .int p2 t2] e) (hq1 : 0 ≤ p1) (hq2 : 0 ≤ p2) (hq3 : p2 < 2 ^ 21) : PoolO J o
inductive DrawOut (P J : Addr) (mv : Int) (v : Value) (h : Heap) : Prop
  | mk  (r : Int) (t : Tok) (o' : Obj) (hq0 : v = .int r t) (hq1 : 0 ≤ r) (hq2 : r < mv) (hq3 : h.get? P = some o') (hq4 : PoolO J o') : DrawOut P J mv v h
theorem useDraw {A : Around} {d u : Nat} {f : Value} {vs : List Value} {Q E : Value → Shared → Prop} {h₀ : Heap} {L P J : Addr} {m : Str → Option Value} {news : List (Addr × Obj)} {o : Obj} {g : Obj → List (Addr × Obj)} {mv : Int}
    (C : codeAny (model PP w) (Ar d u) (.call f ⟨vs, []⟩) (Done [P] (DrawOut P J mv) s) s)
    (F : Fr h₀ L s.heap m) (N : News h₀ L s.heap news) (U : UpdF P o news g) (hA : A.handled = none) (hd : A.depth ≤ d) (hu : A.units ≤ u)
    (h : ∀ r t o' h' tk', Fr h₀ L h' m → News h₀ L h' (g o') → PoolO J o' → 0 ≤ r → r < mv → Q (.int r t) { s with heap := h', toks := tk' }) : wpAny (model PP w) A (call f vs) Q E s := by
  refine use hA hd hu C fun v h' tk' k p => ?_
  obtain ⟨r, t, o', rfl, h0, h1, hP, ho⟩ := p
  obtain ⟨pre, post, rfl, hg, a1, a2⟩ := U.split
  have z := N (P, o) (List.mem_append_right _ (.head _))
  refine h r t o' h' tk' (k.fr F fun c hc => by rw [List.mem_singleton.mp hc]; exact z.2) (fun q hq => ?_) ho h0 h1
  rw [hg] at hq
  rcases List.mem_append.mp hq with hq | hq
  · have y := N q (List.mem_append_left _ hq)
    exact ⟨k _ _ (fun c => a1 q hq (List.mem_singleton.mp c)) y.1, y.2⟩
  · rcases List.mem_cons.mp hq with rfl | hq
    · exact ⟨hP, z.2⟩
    · have y := N q (List.mem_append_right _ (.tail _ hq))
      exact ⟨k _ _ (fun c => a2 q hq (List.mem_singleton.mp c)) y.1, y.2⟩
set_option maxHeartbeats 8000000 in
theorem c_law_draw {P J : Addr} {o : Obj} {vs : List Value} {ns : List Int} {mv : Int} {tm : Tok} (G : Gd w p loose mean mg mb b) (hb : b.StaysIn s.heap) (hP : s.heap.get? P = some o) (hO : PoolO J o) (hJP : J ≠ P) (hJ : s.heap.IsList J (List.toArray vs)) (hi : IntsAre vs ns) (hn : ns.length ≤ 63)
    (hPb : b.get? P = none) (hm : 1 ≤ mv) :
    codeAny (model PP w) (Ar 985 6000) (.call (.ref 130) ⟨[.ref P, .int mv tm], []⟩)
      (Done [P] (DrawOut P J mv) s) s := by
  obtain ⟨p1, t1, p2, t2, e, rfl, h1, h2, h3⟩ := hO
  refine' enter (binds := [(Str.ofString "pool", .ref P), (Str.ofString "many", .int mv tm)]) G hb [(P, listOf #[.ref J, .int p1 t1, .int p2 t2] e)] ?hh ?ho ?hcd ?hr ?hb ?hl ?_ ?c1 ?c2 ?c3 ?c4
  case ho => k_is
  case hcd => k_is
  case hr => first | decide | assumption
  case hb => exact BindsTo.of_eq rfl
  case hl => exact locs rfl
  case c1 => rfl
  case c2 => rfl
  case c3 => rfl
  case c4 => decide
  case hh => exact fun q hq => by rw [List.mem_singleton.mp hq]; exact ⟨hP, hPb⟩
  intro g L h₁ hg F' N' X' T'
  rw [bindsM_eq] at F'
  dsimp only [bindsM, List.reverse, List.reverseAux] at F'
  try dsimp only
  k_fold
  have hJg : g.IsList J (List.toArray vs) := by
    obtain ⟨o, ho, r⟩ := hJ
    refine ⟨o, ?_, r⟩
    rw [hg]
    exact hideAll_get _ ho (fun z => hJP (by simpa using z))
  have hkk : ∀ {h' : Heap} {m' : Str → Option Value}, Fr g L h' m' → Kept [P] s.heap h' := fun F c o hc q => F.keep c o (by rw [hg]; exact hideAll_get _ q (by simpa using hc))
  k_steps
  repeat' ((first | (refine goOn ?_; k_dflt (refine' kmk_slice_ints ?zqF ?zqN ?zql ?zqp ?zqq ?zqi ?zqm rfl ?_ ?zqs ?zqt ?zqz; (case zqF => k_asm); (case zqN => k_asm); (case zql => first | exact Fr.lst (by assumption) (by assumption) | exact News.isList (by assumption) (by k_mem)); (case zqp => kmk_part); (case zqq => kmk_part); (case zqi => assumption); (case zqm => first | exact kmk_all (by assumption) | exact kmk_from (by assumption) (by first | assumption | omega) | exact kmk_upto (by assumption) (by first | assumption | omega) | exact kmk_run (by assumption) (by first | assumption | omega) (by first | assumption | omega)); (case zqs => with_unfolding_all rfl); (case zqt => kmk_pure); (case zqz => exact sz_ok (by assumption) (by omega))); intro _ _ _ _ _ zl1 _ zhC zhL; (try k_lt zl1); (try k_sweep); clear zhC zhL) | (refine goOn ?_; with_reducible rename Fr _ _ _ _ => kFq; with_reducible rename News _ _ _ _ => kNq; k_dflt (refine' appD kFq kNq ?zqo ?zqz ?_; (case zqo => first | exact offOne (by assumption) | exact offNil | assumption); (case zqz => first | assumption | omega)); intro _ _ _; clear kFq kNq) | fail); (try k_steps))
  · dsimp only
    rename Fr _ _ _ _ => F4
    rename News _ _ _ _ => N4
    exact ⟨_, _, _, rfl, rfl, hkk F4, _, _, _, rfl, fmod_lo _ (by omega), fmod_hi _ (by omega), (N4 _ (.head _)).1, _, _, _, _, _, rfl, by omega, h2, h3⟩
  · dsimp only
    rename Fr _ _ _ _ => F4
    rename News _ _ _ _ => N4
    refine ⟨_, _, _, rfl, rfl, hkk F4, _, _, _, rfl, fmod_lo _ (by omega), fmod_hi _ (by omega), (N4 _ (.head _)).1, _, _, _, _, _, rfl, h1, fmod_lo _ (by omega), ?_⟩
    have := fmod_hi (p2 * 4021 + 577) (show (0 : Int) < 1000003 by omega)
    omega
theorem sum_mods : ∀ l : List Int, 0 ≤ (l.map fun k => k.fmod 9973).sum ∧ (l.map fun k => k.fmod 9973).sum ≤ 9973 * (l.length : Int)
  | [] => by simp
  | x :: r => by
    have h := sum_mods r
    have h1 := fmod_lo x (show (0 : Int) < 9973 by omega)
    have h2 := fmod_hi x (show (0 : Int) < 9973 by omega)
    simp only [List.map_cons, List.sum_cons, List.length_cons]
    omega
inductive PoolOut (H : Heap) (v : Value) (h : Heap) : Prop
  | mk  (P : Addr) (o : Obj) (J : Addr) (us : List Value) (ns : List Int) (c : Nat) (hq0 : v = .ref P) (hq1 : H.get? P = none) (hq2 : h.get? P = some o) (hq3 : PoolO J o) (hq4 : J ≠ P) (hq5 : H.get? J = none) (hq6 : h.get? J = some (listOf (List.toArray us) c)) (hq7 : IntsAre us ns) (hq8 : ns.length ≤ 63) : PoolOut H v h
set_option maxHeartbeats 8000000 in
theorem c_law_pool {l : Addr} {vs : List Value} {ns : List Int} (G : Gd w p loose mean mg mb b) (hb : b.StaysIn s.heap) (hl : s.heap.IsList l vs.toArray) (hi : IntsAre vs ns) (hn : ns.length ≤ 63) :
    codeAny (model PP w) (Ar 985 6000) (.call (.ref 135) ⟨[.ref l], []⟩)
      (Done [] (PoolOut s.heap) s) s := by
  refine' enter0 (binds := [(Str.ofString "script", .ref l)]) G hb ?ho ?hcd ?hr ?hb ?hl ?_ ?c1 ?c2 ?c3 ?c4
  case ho => k_is
  case hcd => k_is
  case hr => first | decide | assumption
  case hb => exact BindsTo.of_eq rfl
  case hl => exact locs rfl
  case c1 => rfl
  case c2 => rfl
  case c3 => rfl
  case c4 => decide
  intro L h₁ F' N' X' T'
  dsimp only [bindsM, List.reverse, List.reverseAux] at F'
  try dsimp only
  k_fold
  k_steps
  repeat' ((first | (refine goOn ?_; k_dflt (refine' kmk_slice_ints ?zqF ?zqN ?zql ?zqp ?zqq ?zqi ?zqm rfl ?_ ?zqs ?zqt ?zqz; (case zqF => k_asm); (case zqN => k_asm); (case zql => first | exact Fr.lst (by assumption) (by assumption) | exact News.isList (by assumption) (by k_mem)); (case zqp => kmk_part); (case zqq => kmk_part); (case zqi => assumption); (case zqm => first | exact kmk_all (by assumption) | exact kmk_from (by assumption) (by first | assumption | omega) | exact kmk_upto (by assumption) (by first | assumption | omega) | exact kmk_run (by assumption) (by first | assumption | omega) (by first | assumption | omega)); (case zqs => with_unfolding_all rfl); (case zqt => kmk_pure); (case zqz => exact sz_ok (by assumption) (by omega))); intro _ _ _ _ _ zl1 _ zhC zhL; (try k_lt zl1); (try k_sweep); clear zhC zhL) | (refine goOn ?_; with_reducible rename Fr _ _ _ _ => kFq; with_reducible rename News _ _ _ _ => kNq; k_dflt (refine' appD kFq kNq ?zqo ?zqz ?_; (case zqo => first | exact offOne (by assumption) | exact offNil | assumption); (case zqz => first | assumption | omega)); intro _ _ _; clear kFq kNq) | fail); (try k_steps))
  unfold Stop
  rename Fr _ _ _ _ => F4
  rename News _ _ _ _ => N4
  have hs := sum_mods ((ns.take 20).map fun k' => if k' < 0 then -k' else k')
  have hl20 : ((ns.take 20).map fun k' => if k' < 0 then -k' else k').length ≤ 20 := by
    rw [List.length_map, List.length_take]; exact Nat.min_le_left _ _
  refine ⟨_, _, _, rfl, rfl, kept_of F4, _, _, _, _, _, _, rfl, (N4 _ (.head _)).2.2, (N4 _ (.head _)).1, ⟨_, _, _, _, _, rfl, by omega, by omega, by omega⟩, ?_, (N4 _ (.tail _ (.tail _ (.head _)))).2.2, (N4 _ (.tail _ (.tail _ (.head _)))).1, by assumption, by omega⟩
  rename _ < _ ∧ _ < _ ∧ _ < _ => l1
  exact Nat.ne_of_lt l1.2.1
local macro_rules | `(tactic| walk_at "subscriptTail Name Slice ref ref") => `(tactic| refine stopHere ?_)
theorem nrm_of {ns : List Int} {k : Int} (h1 : k ≤ (ns.length : Int)) (h2 : min (ns.length : Int) 0 ≤ k)
    (h3 : ∀ j : Int, k < j → j ≤ (ns.length : Int) → (if 0 < j then if (ns.getD (j - 1).toNat 0 == 0) = true then true else false else false) = true)
    (h4 : (if 0 < k then if (ns.getD (k - 1).toNat 0 == 0) = true then true else false else false) = false) : Nrm ns (ns.take k.toNat) := by
  have h0 : 0 ≤ k := by omega
  refine ⟨k.toNat, Int.toNat_le.mpr h1, rfl, fun j hj => ?_, fun hk => ?_⟩
  · by_cases hl : j < ns.length
    · have := h3 (j + 1) (by omega) (by omega)
      rw [if_pos (by omega)] at this
      have e : ((j : Int) + 1 - 1).toNat = j := by rw [Int.add_sub_cancel]; rfl
      rw [e] at this
      simpa using this
    · exact getD_out (by omega)
  · rw [if_pos (by omega)] at h4
    have e := Int.pred_toNat k
    rw [e] at h4
    simpa using h4
set_option maxHeartbeats 8000000 in
theorem c_normal {l : Addr} {vs : List Value} {ns : List Int} (G : Gd w p loose mean mg mb b) (hb : b.StaysIn s.heap) (hl : s.heap.IsList l vs.toArray) (hi : IntsAre vs ns) (hn : ns.length ≤ 200) :
    codeAny (model PP w) (Ar 985 6000) (.call (.ref 46) ⟨[.ref l], []⟩) (Done [] (LOut s.heap (Nrm ns)) s) s := by
  refine' enter0 (binds := [(Str.ofString "a", .ref l)]) G hb ?ho ?hcd ?hr ?hb ?hl ?_ ?c1 ?c2 ?c3 ?c4
  case ho => k_is
  case hcd => k_is
  case hr => first | decide | assumption
  case hb => exact BindsTo.of_eq rfl
  case hl => exact locs rfl
  case c1 => rfl
  case c2 => rfl
  case c3 => rfl
  case c4 => decide
  intro L h₁ F' N' X' T'
  dsimp only [bindsM, List.reverse, List.reverseAux] at F'
  try dsimp only
  k_fold
  k_steps
  repeat' ((first | (refine goOn ?_; k_dflt (refine' kmk_slice_ints ?zqF ?zqN ?zql ?zqp ?zqq ?zqi ?zqm rfl ?_ ?zqs ?zqt ?zqz; (case zqF => k_asm); (case zqN => k_asm); (case zql => first | exact Fr.lst (by assumption) (by assumption) | exact News.isList (by assumption) (by k_mem)); (case zqp => kmk_part); (case zqq => kmk_part); (case zqi => assumption); (case zqm => first | exact kmk_all (by assumption) | exact kmk_from (by assumption) (by first | assumption | omega) | exact kmk_upto (by assumption) (by first | assumption | omega) | exact kmk_run (by assumption) (by first | assumption | omega) (by first | assumption | omega)); (case zqs => with_unfolding_all rfl); (case zqt => kmk_pure); (case zqz => exact sz_ok (by assumption) (by omega))); intro _ _ _ _ _ zl1 _ zhC zhL; (try k_lt zl1); (try k_sweep); clear zhC zhL) | (refine goOn ?_; with_reducible rename Fr _ _ _ _ => kFq; with_reducible rename News _ _ _ _ => kNq; k_dflt (refine' appD kFq kNq ?zqo ?zqz ?_; (case zqo => first | exact offOne (by assumption) | exact offNil | assumption); (case zqz => first | assumption | omega)); intro _ _ _; clear kFq kNq) | fail); (try k_steps))
  dsimp only
  k_steps
  repeat' ((first | (refine goOn ?_; k_dflt (refine' kmk_slice_ints ?zqF ?zqN ?zql ?zqp ?zqq ?zqi ?zqm rfl ?_ ?zqs ?zqt ?zqz; (case zqF => k_asm); (case zqN => k_asm); (case zql => first | exact Fr.lst (by assumption) (by assumption) | exact News.isList (by assumption) (by k_mem)); (case zqp => kmk_part); (case zqq => kmk_part); (case zqi => assumption); (case zqm => first | exact kmk_all (by assumption) | exact kmk_from (by assumption) (by first | assumption | omega) | exact kmk_upto (by assumption) (by first | assumption | omega) | exact kmk_run (by assumption) (by first | assumption | omega) (by first | assumption | omega)); (case zqs => with_unfolding_all rfl); (case zqt => kmk_pure); (case zqz => exact sz_ok (by assumption) (by omega))); intro _ _ _ _ _ zl1 _ zhC zhL; (try k_lt zl1); (try k_sweep); clear zhC zhL) | (refine goOn ?_; with_reducible rename Fr _ _ _ _ => kFq; with_reducible rename News _ _ _ _ => kNq; k_dflt (refine' appD kFq kNq ?zqo ?zqz ?_; (case zqo => first | exact offOne (by assumption) | exact offNil | assumption); (case zqz => first | assumption | omega)); intro _ _ _; clear kFq kNq) | fail); (try k_steps))
  unfold Stop
  rename Fr _ _ _ _ => F1
  rename News _ _ _ _ => N1
  exact done_list F1 N1 (List.Mem.head _) (by assumption) (nrm_of (by assumption) (by assumption) (by assumption) (by assumption))
set_option maxHeartbeats 8000000 in
theorem c_compare {l l2 : Addr} {vs vs2 : List Value} {ns ns2 : List Int} (G : Gd w p loose mean mg mb b) (hb : b.StaysIn s.heap) (hl : s.heap.IsList l vs.toArray) (hl2 : s.heap.IsList l2 vs2.toArray)
    (hi : IntsAre vs ns) (hi2 : IntsAre vs2 ns2) (hn : ns.length ≤ 200) (hn2 : ns2.length ≤ 200) :
    codeAny (model PP w) (Ar 985 6000) (.call (.ref 53) ⟨[.ref l, .ref l2], []⟩) (Done [] (IOut (Cmp ns ns2)) s) s := by
  refine' enter0 (binds := [(Str.ofString "a", .ref l), (Str.ofString "b", .ref l2)]) G hb ?ho ?hcd ?hr ?hb ?hl ?_ ?c1 ?c2 ?c3 ?c4
  case ho => k_is
  case hcd => k_is
  case hr => first | decide | assumption
  case hb => exact BindsTo.of_eq rfl
  case hl => exact locs rfl
  case c1 => rfl
  case c2 => rfl
  case c3 => rfl
  case c4 => decide
  intro L h₁ F' N' X' T'
  dsimp only [bindsM, List.reverse, List.reverseAux] at F'
  try dsimp only
  k_fold
  k_steps
  repeat' ((first | (refine goOn ?_; k_dflt (refine' kmk_slice_ints ?zqF ?zqN ?zql ?zqp ?zqq ?zqi ?zqm rfl ?_ ?zqs ?zqt ?zqz; (case zqF => k_asm); (case zqN => k_asm); (case zql => first | exact Fr.lst (by assumption) (by assumption) | exact News.isList (by assumption) (by k_mem)); (case zqp => kmk_part); (case zqq => kmk_part); (case zqi => assumption); (case zqm => first | exact kmk_all (by assumption) | exact kmk_from (by assumption) (by first | assumption | omega) | exact kmk_upto (by assumption) (by first | assumption | omega) | exact kmk_run (by assumption) (by first | assumption | omega) (by first | assumption | omega)); (case zqs => with_unfolding_all rfl); (case zqt => kmk_pure); (case zqz => exact sz_ok (by assumption) (by omega))); intro _ _ _ _ _ zl1 _ zhC zhL; (try k_lt zl1); (try k_sweep); clear zhC zhL) | (refine goOn ?_; with_reducible rename Fr _ _ _ _ => kFq; with_reducible rename News _ _ _ _ => kNq; k_dflt (refine' appD kFq kNq ?zqo ?zqz ?_; (case zqo => first | exact offOne (by assumption) | exact offNil | assumption); (case zqz => first | assumption | omega)); intro _ _ _; clear kFq kNq) | fail); (try k_steps))
  · unfold Stop
    rename Fr _ _ _ _ => F1
    exact done_int F1 (.inl ⟨by omega, rfl⟩)
  · unfold Stop
    rename Fr _ _ _ _ => F1
    exact done_int F1 (.inr (.inl ⟨by omega, rfl⟩))
  · unfold Stop
    rename Fr _ _ _ _ => F'
    refine For_invVF F' (by rfl) (by rfl) ?_
    k_steps
    repeat' ((first | (refine goOn ?_; k_dflt (refine' kmk_slice_ints ?zqF ?zqN ?zql ?zqp ?zqq ?zqi ?zqm rfl ?_ ?zqs ?zqt ?zqz; (case zqF => k_asm); (case zqN => k_asm); (case zql => first | exact Fr.lst (by assumption) (by assumption) | exact News.isList (by assumption) (by k_mem)); (case zqp => kmk_part); (case zqq => kmk_part); (case zqi => assumption); (case zqm => first | exact kmk_all (by assumption) | exact kmk_from (by assumption) (by first | assumption | omega) | exact kmk_upto (by assumption) (by first | assumption | omega) | exact kmk_run (by assumption) (by first | assumption | omega) (by first | assumption | omega)); (case zqs => with_unfolding_all rfl); (case zqt => kmk_pure); (case zqz => exact sz_ok (by assumption) (by omega))); intro _ _ _ _ _ zl1 _ zhC zhL; (try k_lt zl1); (try k_sweep); clear zhC zhL) | (refine goOn ?_; with_reducible rename Fr _ _ _ _ => kFq; with_reducible rename News _ _ _ _ => kNq; k_dflt (refine' appD kFq kNq ?zqo ?zqz ?_; (case zqo => first | exact offOne (by assumption) | exact offNil | assumption); (case zqz => first | assumption | omega)); intro _ _ _; clear kFq kNq) | fail); (try k_steps))
    unfold Stop
    dsimp only
    rename IsRange _ _ _ _ _ _ _ _ => R'
    rename Fr _ _ _ _ => F1
    rename News _ _ _ _ => N1
    have hlen : ns.length = ns2.length := by omega
    refine kst_rangeD (σ := Unit) (n := ns.length) (fun _ => []) (fun _ => []) (fun _ => True) [] (fun pre _ => ∀ j : Nat, ns.length - pre.length ≤ j → ns.getD j 0 = ns2.getD j 0) ()
      rfl R' ?sm ?rs F1 N1 trivial ?kk ?pp ?_ ?_
    case sm => exact small_down (by omega) (by omega) (by omega) (by omega)
    case rs => rw [rangeSize_downNat]; omega
    case kk => intro _ h; cases h
    case pp => intro j hj; simp only [List.length_nil, Nat.sub_zero] at hj; rw [getD_out hj, getD_out (by omega)]
    · clear F1 N1 R'
      intro c pre k t u h' tk' own hk hlt hoff hf hp F2 N2
      try dsimp only
      k_fold
      k_steps
      repeat' ((first | (refine goOn ?_; k_dflt (refine' kmk_slice_ints ?zqF ?zqN ?zql ?zqp ?zqq ?zqi ?zqm rfl ?_ ?zqs ?zqt ?zqz; (case zqF => k_asm); (case zqN => k_asm); (case zql => first | exact Fr.lst (by assumption) (by assumption) | exact News.isList (by assumption) (by k_mem)); (case zqp => kmk_part); (case zqq => kmk_part); (case zqi => assumption); (case zqm => first | exact kmk_all (by assumption) | exact kmk_from (by assumption) (by first | assumption | omega) | exact kmk_upto (by assumption) (by first | assumption | omega) | exact kmk_run (by assumption) (by first | assumption | omega) (by first | assumption | omega)); (case zqs => with_unfolding_all rfl); (case zqt => kmk_pure); (case zqz => exact sz_ok (by assumption) (by omega))); intro _ _ _ _ _ zl1 _ zhC zhL; (try k_lt zl1); (try k_sweep); clear zhC zhL) | (refine goOn ?_; with_reducible rename Fr _ _ _ _ => kFq; with_reducible rename News _ _ _ _ => kNq; k_dflt (refine' appD kFq kNq ?zqo ?zqz ?_; (case zqo => first | exact offOne (by assumption) | exact offNil | assumption); (case zqz => first | assumption | omega)); intro _ _ _; clear kFq kNq) | fail); (try k_steps))
      · unfold Stop
        rename Fr _ _ _ _ => F1
        exact done_int F1 (.inr (.inr ⟨hlen, .inr ⟨k.toNat, by omega, fun j hj => hp j (by omega), .inl ⟨by assumption, rfl⟩⟩⟩))
      · unfold Stop
        rename Fr _ _ _ _ => F1
        exact done_int F1 (.inr (.inr ⟨hlen, .inr ⟨k.toNat, by omega, fun j hj => hp j (by omega), .inr ⟨by omega, rfl⟩⟩⟩))
      · unfold Stop
        rename Fr _ _ _ _ => F1
        rename News _ _ _ _ => N1
        refine kst_end () F1 N1 (by intro _ h; cases h) (fun _ h => List.mem_append_right _ h) rfl trivial (by intro _ h; cases h) ?_ ?_
        · intro z h1 _ _
          simp [h1, kstB]
        · intro j hj
          simp only [List.length_append, List.length_cons, List.length_nil] at hj
          by_cases q : ns.length - pre.length ≤ j
          · exact hp j q
          · have : j = k.toNat := by omega
            rw [this]; assumption
    · clear F1 N1 R'
      intro c u h' tk' hf hp F2 N2
      k_steps
      repeat' ((first | (refine goOn ?_; k_dflt (refine' kmk_slice_ints ?zqF ?zqN ?zql ?zqp ?zqq ?zqi ?zqm rfl ?_ ?zqs ?zqt ?zqz; (case zqF => k_asm); (case zqN => k_asm); (case zql => first | exact Fr.lst (by assumption) (by assumption) | exact News.isList (by assumption) (by k_mem)); (case zqp => kmk_part); (case zqq => kmk_part); (case zqi => assumption); (case zqm => first | exact kmk_all (by assumption) | exact kmk_from (by assumption) (by first | assumption | omega) | exact kmk_upto (by assumption) (by first | assumption | omega) | exact kmk_run (by assumption) (by first | assumption | omega) (by first | assumption | omega)); (case zqs => with_unfolding_all rfl); (case zqt => kmk_pure); (case zqz => exact sz_ok (by assumption) (by omega))); intro _ _ _ _ _ zl1 _ zhC zhL; (try k_lt zl1); (try k_sweep); clear zhC zhL) | (refine goOn ?_; with_reducible rename Fr _ _ _ _ => kFq; with_reducible rename News _ _ _ _ => kNq; k_dflt (refine' appD kFq kNq ?zqo ?zqz ?_; (case zqo => first | exact offOne (by assumption) | exact offNil | assumption); (case zqz => first | assumption | omega)); intro _ _ _; clear kFq kNq) | fail); (try k_steps))
      unfold Stop
      rename Fr _ _ _ _ => F1
      refine done_int F1 (.inr (.inr ⟨hlen, .inl ⟨?_, rfl⟩⟩))
      rw [downKs_length] at hp
      apply List.ext_getElem hlen
      intro n q1 q2
      have := hp n (by omega)
      rw [List.getD_eq_getElem?_getD, List.getD_eq_getElem?_getD, List.getElem?_eq_getElem q1, List.getElem?_eq_getElem q2] at this
      exact this
inductive AddMid (H : Heap) (L : Addr) (s : Shared) (wv : Int) (tw : Tok) (B V : Int) (M : Nat) (f : Flow) (s' : Shared) : Prop
  | mk (hq0 : f = .next) (h' : Heap) (tk' : Nat) (la : Addr) (va : List Value) (na : List Int) (lb : Addr) (vb : List Value) (nb : List Int) (hq1 : s' = { s with heap := h', toks := tk' })
    (hq2 : Fr H L h' (fun y => if y = Str.ofString "a" then some (.ref la) else if y = Str.ofString "b" then some (.ref lb) else if y = Str.ofString "w" then some (.int wv tw) else none))
    (hq3 : H.IsList la (List.toArray va)) (hq4 : H.IsList lb (List.toArray vb)) (hq5 : IntsAre va na) (hq6 : IntsAre vb nb) (hq7 : Row B na) (hq8 : Row B nb) (hq9 : val B na + val B nb = V) (hq10 : nb.length ≤ na.length) (hq11 : na.length = M) : AddMid H L s wv tw B V M f s'
set_option maxHeartbeats 8000000 in
theorem c_add {l l2 : Addr} {vs vs2 : List Value} {ns ns2 : List Int} {wv : Int} {tw : Tok} (G : Gd w p loose mean mg mb b) (hb : b.StaysIn s.heap) (hl : s.heap.IsList l vs.toArray) (hl2 : s.heap.IsList l2 vs2.toArray)
    (hi : IntsAre vs ns) (hi2 : IntsAre vs2 ns2) (hn : ns.length ≤ 100) (hn2 : ns2.length ≤ 100) (hw0 : 1 ≤ wv) (hw1 : wv ≤ 9) (hr : Row (2 ^ wv.toNat) ns) (hr2 : Row (2 ^ wv.toNat) ns2) :
    codeAny (model PP w) (Ar 985 6000) (.call (.ref 60) ⟨[.ref l, .ref l2, .int wv tw], []⟩)
      (Done [] (LOut s.heap fun ms => Row (2 ^ wv.toNat) ms ∧ val (2 ^ wv.toNat) ms = val (2 ^ wv.toNat) ns + val (2 ^ wv.toNat) ns2 ∧ ms.length ≤ max ns.length ns2.length + 1) s) s := by
  refine' enter0 (binds := [(Str.ofString "a", .ref l), (Str.ofString "b", .ref l2), (Str.ofString "w", .int wv tw)]) G hb ?ho ?hcd ?hr ?hb ?hl ?_ ?c1 ?c2 ?c3 ?c4
  case ho => k_is
  case hcd => k_is
  case hr => first | decide | assumption
  case hb => exact BindsTo.of_eq rfl
  case hl => exact locs rfl
  case c1 => rfl
  case c2 => rfl
  case c3 => rfl
  case c4 => decide
  intro L h₁ F' N' X' T'
  dsimp only [bindsM, List.reverse, List.reverseAux] at F'
  try dsimp only
  k_fold
  refine wpAny_execs_cons (wpAny_mono (Q := AddMid s.heap L s wv tw (2 ^ wv.toNat) (val (2 ^ wv.toNat) ns + val (2 ^ wv.toNat) ns2) (max ns.length ns2.length)) (E := fun _ _ => False) ?_ ?_ (fun _ _ z => z.elim))
  · k_fold
    k_steps
    repeat' ((first | (refine goOn ?_; k_dflt (refine' kmk_slice_ints ?zqF ?zqN ?zql ?zqp ?zqq ?zqi ?zqm rfl ?_ ?zqs ?zqt ?zqz; (case zqF => k_asm); (case zqN => k_asm); (case zql => first | exact Fr.lst (by assumption) (by assumption) | exact News.isList (by assumption) (by k_mem)); (case zqp => kmk_part); (case zqq => kmk_part); (case zqi => assumption); (case zqm => first | exact kmk_all (by assumption) | exact kmk_from (by assumption) (by first | assumption | omega) | exact kmk_upto (by assumption) (by first | assumption | omega) | exact kmk_run (by assumption) (by first | assumption | omega) (by first | assumption | omega)); (case zqs => with_unfolding_all rfl); (case zqt => kmk_pure); (case zqz => exact sz_ok (by assumption) (by omega))); intro _ _ _ _ _ zl1 _ zhC zhL; (try k_lt zl1); (try k_sweep); clear zhC zhL) | (refine goOn ?_; with_reducible rename Fr _ _ _ _ => kFq; with_reducible rename News _ _ _ _ => kNq; k_dflt (refine' appD kFq kNq ?zqo ?zqz ?_; (case zqo => first | exact offOne (by assumption) | exact offNil | assumption); (case zqz => first | assumption | omega)); intro _ _ _; clear kFq kNq) | fail); (try k_steps))
    · rename Fr _ _ _ _ => F1
      refine ⟨rfl, _, _, l2, vs2, ns2, l, vs, ns, rfl, fr_eq F1 fun y => ?_, hl2, hl, hi2, hi, hr2, hr, Int.add_comm _ _, by omega, by omega⟩
      by_cases h1 : y = Str.ofString "a"
      · simp only [if_pos h1]
      · by_cases h2 : y = Str.ofString "b"
        · simp only [if_neg h1, if_pos h2]
        · simp only [if_neg h1, if_neg h2]
    · rename Fr _ _ _ _ => F1
      refine ⟨rfl, _, _, l, vs, ns, l2, vs2, ns2, rfl, fr_eq F1 fun y => ?_, hl, hl2, hi, hi2, hr, hr2, rfl, by omega, by omega⟩
      by_cases h1 : y = Str.ofString "a"
      · subst h1; rfl
      · by_cases h2 : y = Str.ofString "b"
        · subst h2; rfl
        · by_cases h3 : y = Str.ofString "w"
          · subst h3; rfl
          · simp only [if_neg h1, if_neg h2, if_neg h3]
  · clear N' hl hl2 hi hi2 hr hr2
    rename Fr _ _ _ _ => F0
    clear F0
    rintro f s' ⟨rfl, h', tk', la, va, na, lb, vb, nb, rfl, F1, hl, hl2, hi, hi2, hr, hr2, hV, hle, hM⟩
    have N1 : News s.heap L h' [] := fun _ z => nomatch z
    have hna : na.length ≤ 100 := by omega
    have hnb : nb.length ≤ 100 := by omega
    clear hn hn2
    dsimp only
    k_steps
    repeat' ((first | (refine goOn ?_; k_dflt (refine' kmk_slice_ints ?zqF ?zqN ?zql ?zqp ?zqq ?zqi ?zqm rfl ?_ ?zqs ?zqt ?zqz; (case zqF => k_asm); (case zqN => k_asm); (case zql => first | exact Fr.lst (by assumption) (by assumption) | exact News.isList (by assumption) (by k_mem)); (case zqp => kmk_part); (case zqq => kmk_part); (case zqi => assumption); (case zqm => first | exact kmk_all (by assumption) | exact kmk_from (by assumption) (by first | assumption | omega) | exact kmk_upto (by assumption) (by first | assumption | omega) | exact kmk_run (by assumption) (by first | assumption | omega) (by first | assumption | omega)); (case zqs => with_unfolding_all rfl); (case zqt => kmk_pure); (case zqz => exact sz_ok (by assumption) (by omega))); intro _ _ _ _ _ zl1 _ zhC zhL; (try k_lt zl1); (try k_sweep); clear zhC zhL) | (refine goOn ?_; with_reducible rename Fr _ _ _ _ => kFq; with_reducible rename News _ _ _ _ => kNq; k_dflt (refine' appD kFq kNq ?zqo ?zqz ?_; (case zqo => first | exact offOne (by assumption) | exact offNil | assumption); (case zqz => first | assumption | omega)); intro _ _ _; clear kFq kNq) | fail); (try k_steps))
    unfold Stop
    rename Fr _ _ _ _ => F'
    refine For_invVF F' (by rfl) (by rfl) ?_
    k_steps
    repeat' ((first | (refine goOn ?_; k_dflt (refine' kmk_slice_ints ?zqF ?zqN ?zql ?zqp ?zqq ?zqi ?zqm rfl ?_ ?zqs ?zqt ?zqz; (case zqF => k_asm); (case zqN => k_asm); (case zql => first | exact Fr.lst (by assumption) (by assumption) | exact News.isList (by assumption) (by k_mem)); (case zqp => kmk_part); (case zqq => kmk_part); (case zqi => assumption); (case zqm => first | exact kmk_all (by assumption) | exact kmk_from (by assumption) (by first | assumption | omega) | exact kmk_upto (by assumption) (by first | assumption | omega) | exact kmk_run (by assumption) (by first | assumption | omega) (by first | assumption | omega)); (case zqs => with_unfolding_all rfl); (case zqt => kmk_pure); (case zqz => exact sz_ok (by assumption) (by omega))); intro _ _ _ _ _ zl1 _ zhC zhL; (try k_lt zl1); (try k_sweep); clear zhC zhL) | (refine goOn ?_; with_reducible rename Fr _ _ _ _ => kFq; with_reducible rename News _ _ _ _ => kNq; k_dflt (refine' appD kFq kNq ?zqo ?zqz ?_; (case zqo => first | exact offOne (by assumption) | exact offNil | assumption); (case zqz => first | assumption | omega)); intro _ _ _; clear kFq kNq) | fail); (try k_steps))
    unfold Stop
    dsimp only
    rename IsRange _ _ _ _ _ _ _ _ => R'
    rename Fr _ _ _ _ => F2
    rename News _ _ _ _ => N2
    replace N2 := fun q hq => N2 q (.tail _ hq)
    refine loopLI (n := nb.length) (Str.ofString "carry") [] (AddI (2 ^ wv.toNat) na nb) rfl R' ?sm ?rs F2 N2 IntsAre.nil rfl (AddI.zero _ _ _) ?_ ?_
    case sm => exact small_one (by omega) (by omega) (by omega) (by omega)
    case rs => rw [rangeSize_nat, Int.sub_zero, Int.toNat_natCast]
    · clear F2 N2 R'
      intro us ms e cy ct i k t u h2 tk2 own hk hlt hoff hI hP F3 N3
      try dsimp only
      k_fold
      have hz : us.length ≤ 10000 := by rw [hI.length, hP.1]; omega
      k_steps
      repeat' ((first | (refine goOn ?_; k_dflt (refine' kmk_slice_ints ?zqF ?zqN ?zql ?zqp ?zqq ?zqi ?zqm rfl ?_ ?zqs ?zqt ?zqz; (case zqF => k_asm); (case zqN => k_asm); (case zql => first | exact Fr.lst (by assumption) (by assumption) | exact News.isList (by assumption) (by k_mem)); (case zqp => kmk_part); (case zqq => kmk_part); (case zqi => assumption); (case zqm => first | exact kmk_all (by assumption) | exact kmk_from (by assumption) (by first | assumption | omega) | exact kmk_upto (by assumption) (by first | assumption | omega) | exact kmk_run (by assumption) (by first | assumption | omega) (by first | assumption | omega)); (case zqs => with_unfolding_all rfl); (case zqt => kmk_pure); (case zqz => exact sz_ok (by assumption) (by omega))); intro _ _ _ _ _ zl1 _ zhC zhL; (try k_lt zl1); (try k_sweep); clear zhC zhL) | (refine goOn ?_; with_reducible rename Fr _ _ _ _ => kFq; with_reducible rename News _ _ _ _ => kNq; k_dflt (refine' appD kFq kNq ?zqo ?zqz ?_; (case zqo => first | exact offOne (by assumption) | exact offNil | assumption); (case zqz => first | assumption | omega)); intro _ _ _; clear kFq kNq) | fail); (try k_steps))
      unfold Stop
      rename Fr _ _ _ _ => F4
      rename News _ _ _ _ => N4
      refine LIEnd.intro F4 N4 (.head _) (fun q hq => .tail _ hq) (ints_snoc hI _ _) rfl (fun z h1 h2 _ => by simp [h1, h2]) ?_
      have hk' : k.toNat = i := by rw [hk, Int.zero_add]; rfl
      rw [hk', mask_eq, shift_eq]
      exact hP.step (base_gt hw0) hr.1 hr2.1
    · clear F2 N2 R'
      intro us ms e cy ct u h2 tk2 hI hP F3 N3
      dsimp only
      k_steps
      repeat' ((first | (refine goOn ?_; k_dflt (refine' kmk_slice_ints ?zqF ?zqN ?zql ?zqp ?zqq ?zqi ?zqm rfl ?_ ?zqs ?zqt ?zqz; (case zqF => k_asm); (case zqN => k_asm); (case zql => first | exact Fr.lst (by assumption) (by assumption) | exact News.isList (by assumption) (by k_mem)); (case zqp => kmk_part); (case zqq => kmk_part); (case zqi => assumption); (case zqm => first | exact kmk_all (by assumption) | exact kmk_from (by assumption) (by first | assumption | omega) | exact kmk_upto (by assumption) (by first | assumption | omega) | exact kmk_run (by assumption) (by first | assumption | omega) (by first | assumption | omega)); (case zqs => with_unfolding_all rfl); (case zqt => kmk_pure); (case zqz => exact sz_ok (by assumption) (by omega))); intro _ _ _ _ _ zl1 _ zhC zhL; (try k_lt zl1); (try k_sweep); clear zhC zhL) | (refine goOn ?_; with_reducible rename Fr _ _ _ _ => kFq; with_reducible rename News _ _ _ _ => kNq; k_dflt (refine' appD kFq kNq ?zqo ?zqz ?_; (case zqo => first | exact offOne (by assumption) | exact offNil | assumption); (case zqz => first | assumption | omega)); intro _ _ _; clear kFq kNq) | fail); (try k_steps))
      unfold Stop
      rename Fr _ _ _ _ => F'
      refine For_invVF F' (by rfl) (by rfl) ?_
      k_steps
      repeat' ((first | (refine goOn ?_; k_dflt (refine' kmk_slice_ints ?zqF ?zqN ?zql ?zqp ?zqq ?zqi ?zqm rfl ?_ ?zqs ?zqt ?zqz; (case zqF => k_asm); (case zqN => k_asm); (case zql => first | exact Fr.lst (by assumption) (by assumption) | exact News.isList (by assumption) (by k_mem)); (case zqp => kmk_part); (case zqq => kmk_part); (case zqi => assumption); (case zqm => first | exact kmk_all (by assumption) | exact kmk_from (by assumption) (by first | assumption | omega) | exact kmk_upto (by assumption) (by first | assumption | omega) | exact kmk_run (by assumption) (by first | assumption | omega) (by first | assumption | omega)); (case zqs => with_unfolding_all rfl); (case zqt => kmk_pure); (case zqz => exact sz_ok (by assumption) (by omega))); intro _ _ _ _ _ zl1 _ zhC zhL; (try k_lt zl1); (try k_sweep); clear zhC zhL) | (refine goOn ?_; with_reducible rename Fr _ _ _ _ => kFq; with_reducible rename News _ _ _ _ => kNq; k_dflt (refine' appD kFq kNq ?zqo ?zqz ?_; (case zqo => first | exact offOne (by assumption) | exact offNil | assumption); (case zqz => first | assumption | omega)); intro _ _ _; clear kFq kNq) | fail); (try k_steps))
      unfold Stop
      dsimp only
      rename IsRange _ _ _ _ _ _ _ _ => R'
      rename Fr _ _ _ _ => F2
      rename News _ _ _ _ => N2
      refine loopLI (n := na.length - nb.length) (Str.ofString "carry") [] (fun i => AddI (2 ^ wv.toNat) na nb (nb.length + i)) rfl R' ?sm ?rs F2 N2 hI rfl hP ?_ ?_
      case sm => exact small_one (by omega) (by omega) (by omega) (by omega)
      case rs => rw [rangeSize_nat, Int.toNat_sub]
      · clear F2 N2 R' hI hP
        intro us ms e cy ct i k t u h2 tk2 own hk hlt hoff hI hP F3 N3
        try dsimp only
        k_fold
        have hz : us.length ≤ 10000 := by rw [hI.length, hP.1]; omega
        k_steps
        repeat' ((first | (refine goOn ?_; k_dflt (refine' kmk_slice_ints ?zqF ?zqN ?zql ?zqp ?zqq ?zqi ?zqm rfl ?_ ?zqs ?zqt ?zqz; (case zqF => k_asm); (case zqN => k_asm); (case zql => first | exact Fr.lst (by assumption) (by assumption) | exact News.isList (by assumption) (by k_mem)); (case zqp => kmk_part); (case zqq => kmk_part); (case zqi => assumption); (case zqm => first | exact kmk_all (by assumption) | exact kmk_from (by assumption) (by first | assumption | omega) | exact kmk_upto (by assumption) (by first | assumption | omega) | exact kmk_run (by assumption) (by first | assumption | omega) (by first | assumption | omega)); (case zqs => with_unfolding_all rfl); (case zqt => kmk_pure); (case zqz => exact sz_ok (by assumption) (by omega))); intro _ _ _ _ _ zl1 _ zhC zhL; (try k_lt zl1); (try k_sweep); clear zhC zhL) | (refine goOn ?_; with_reducible rename Fr _ _ _ _ => kFq; with_reducible rename News _ _ _ _ => kNq; k_dflt (refine' appD kFq kNq ?zqo ?zqz ?_; (case zqo => first | exact offOne (by assumption) | exact offNil | assumption); (case zqz => first | assumption | omega)); intro _ _ _; clear kFq kNq) | fail); (try k_steps))
        unfold Stop
        rename Fr _ _ _ _ => F4
        rename News _ _ _ _ => N4
        refine LIEnd.intro F4 N4 (.head _) (fun q hq => .tail _ hq) (ints_snoc hI _ _) rfl (fun z h1 h2 _ => by simp [h1, h2]) ?_
        have hk' : k.toNat = nb.length + i := by rw [hk]; rfl
        have hst := hP.step (base_gt hw0) hr.1 hr2.1
        rw [getD_out (a := nb) (Nat.le_add_right _ _), Int.add_zero] at hst
        rw [hk', mask_eq, shift_eq]
        exact hst
      · clear F2 N2 R' hI hP
        intro us ms e cy ct u h2 tk2 hI hP F3 N3
        rw [Nat.add_sub_cancel' hle] at hP
        have hz : us.length ≤ 10000 := by rw [hI.length, hP.1]; omega
        have hd := hP.done (base_gt hw0) hr hr2 hle
        dsimp only
        k_steps
        repeat' ((first | (refine goOn ?_; k_dflt (refine' kmk_slice_ints ?zqF ?zqN ?zql ?zqp ?zqq ?zqi ?zqm rfl ?_ ?zqs ?zqt ?zqz; (case zqF => k_asm); (case zqN => k_asm); (case zql => first | exact Fr.lst (by assumption) (by assumption) | exact News.isList (by assumption) (by k_mem)); (case zqp => kmk_part); (case zqq => kmk_part); (case zqi => assumption); (case zqm => first | exact kmk_all (by assumption) | exact kmk_from (by assumption) (by first | assumption | omega) | exact kmk_upto (by assumption) (by first | assumption | omega) | exact kmk_run (by assumption) (by first | assumption | omega) (by first | assumption | omega)); (case zqs => with_unfolding_all rfl); (case zqt => kmk_pure); (case zqz => exact sz_ok (by assumption) (by omega))); intro _ _ _ _ _ zl1 _ zhC zhL; (try k_lt zl1); (try k_sweep); clear zhC zhL) | (refine goOn ?_; with_reducible rename Fr _ _ _ _ => kFq; with_reducible rename News _ _ _ _ => kNq; k_dflt (refine' appD kFq kNq ?zqo ?zqz ?_; (case zqo => first | exact offOne (by assumption) | exact offNil | assumption); (case zqz => first | assumption | omega)); intro _ _ _; clear kFq kNq) | fail); (try k_steps))
        · unfold Stop
          rename Fr _ _ _ _ => F4
          rename News _ _ _ _ => N4
          rw [if_pos (by assumption)] at hd
          exact done_list F4 N4 (.head _) (ints_snoc hI _ _) ⟨hd.1, by omega, by omega⟩
        · unfold Stop
          rename Fr _ _ _ _ => F4
          rename News _ _ _ _ => N4
          rw [if_neg (by omega), List.append_nil] at hd
          exact done_list F4 N4 (.head _) hI ⟨hd.1, by omega, by omega⟩
set_option maxHeartbeats 8000000 in
theorem c_law_row {nv wv : Int} {tn tw : Tok} (G : Gd w p loose mean mg mb b) (hb : b.StaysIn s.heap) (hn0 : 0 ≤ nv) (hn1 : nv < 2 ^ 512) (hw0 : 1 ≤ wv) (hw1 : wv ≤ 9) :
    codeAny (model PP w) (Ar 985 6000) (.call (.ref 142) ⟨[.int nv tn, .int wv tw], []⟩)
      (Done [] (LOut s.heap fun ms => Row (2 ^ wv.toNat) ms ∧ val (2 ^ wv.toNat) ms = nv) s) s := by
  refine' enter0 (binds := [(Str.ofString "number", .int nv tn), (Str.ofString "w", .int wv tw)]) G hb ?ho ?hcd ?hr ?hb ?hl ?_ ?c1 ?c2 ?c3 ?c4
  case ho => k_is
  case hcd => k_is
  case hr => first | decide | assumption
  case hb => exact BindsTo.of_eq rfl
  case hl => exact locs rfl
  case c1 => rfl
  case c2 => rfl
  case c3 => rfl
  case c4 => decide
  intro L h₁ F' N' X' T'
  dsimp only [bindsM, List.reverse, List.reverseAux] at F'
  try dsimp only
  k_fold
  k_steps
  repeat' ((first | (refine goOn ?_; k_dflt (refine' kmk_slice_ints ?zqF ?zqN ?zql ?zqp ?zqq ?zqi ?zqm rfl ?_ ?zqs ?zqt ?zqz; (case zqF => k_asm); (case zqN => k_asm); (case zql => first | exact Fr.lst (by assumption) (by assumption) | exact News.isList (by assumption) (by k_mem)); (case zqp => kmk_part); (case zqq => kmk_part); (case zqi => assumption); (case zqm => first | exact kmk_all (by assumption) | exact kmk_from (by assumption) (by first | assumption | omega) | exact kmk_upto (by assumption) (by first | assumption | omega) | exact kmk_run (by assumption) (by first | assumption | omega) (by first | assumption | omega)); (case zqs => with_unfolding_all rfl); (case zqt => kmk_pure); (case zqz => exact sz_ok (by assumption) (by omega))); intro _ _ _ _ _ zl1 _ zhC zhL; (try k_lt zl1); (try k_sweep); clear zhC zhL) | (refine goOn ?_; with_reducible rename Fr _ _ _ _ => kFq; with_reducible rename News _ _ _ _ => kNq; k_dflt (refine' appD kFq kNq ?zqo ?zqz ?_; (case zqo => first | exact offOne (by assumption) | exact offNil | assumption); (case zqz => first | assumption | omega)); intro _ _ _; clear kFq kNq) | fail); (try k_steps))
  unfold Stop
  rename Fr _ _ _ _ => F1
  rename News _ _ _ _ => N1
  refine whileLI (Str.ofString "number") (RowI (2 ^ wv.toNat) nv) Int.toNat F1 N1 IntsAre.nil rfl (RowI.zero hn0 hn1) ?_ PassesOwn.never
  clear F1 N1
  intro us ms e cy ct h2 tk2 hI hP F2 N2
  try dsimp only
  k_fold
  by_cases hc : 0 < cy
  · have hst := hP.step (base_gt hw0) hc
    have hz : us.length ≤ 10000 := by rw [hI.length]; omega
    k_steps
    repeat' ((first | (refine goOn ?_; k_dflt (refine' kmk_slice_ints ?zqF ?zqN ?zql ?zqp ?zqq ?zqi ?zqm rfl ?_ ?zqs ?zqt ?zqz; (case zqF => k_asm); (case zqN => k_asm); (case zql => first | exact Fr.lst (by assumption) (by assumption) | exact News.isList (by assumption) (by k_mem)); (case zqp => kmk_part); (case zqq => kmk_part); (case zqi => assumption); (case zqm => first | exact kmk_all (by assumption) | exact kmk_from (by assumption) (by first | assumption | omega) | exact kmk_upto (by assumption) (by first | assumption | omega) | exact kmk_run (by assumption) (by first | assumption | omega) (by first | assumption | omega)); (case zqs => with_unfolding_all rfl); (case zqt => kmk_pure); (case zqz => exact sz_ok (by assumption) (by omega))); intro _ _ _ _ _ zl1 _ zhC zhL; (try k_lt zl1); (try k_sweep); clear zhC zhL) | (refine goOn ?_; with_reducible rename Fr _ _ _ _ => kFq; with_reducible rename News _ _ _ _ => kNq; k_dflt (refine' appD kFq kNq ?zqo ?zqz ?_; (case zqo => first | exact offOne (by assumption) | exact offNil | assumption); (case zqz => first | assumption | omega)); intro _ _ _; clear kFq kNq) | fail); (try k_steps))
    unfold Stop
    rename Fr _ _ _ _ => F4
    rename News _ _ _ _ => N4
    refine WLEnd.intro F4 N4 (.head _) (ints_snoc hI _ _) rfl (fun z h1 => by simp [h1]) ?_ ?_
    · rw [fmod_eq, shift_eq]; exact hst.1
    · rw [shift_eq]; omega
  · have hd := hP.done hc
    k_steps
    repeat' ((first | (refine goOn ?_; k_dflt (refine' kmk_slice_ints ?zqF ?zqN ?zql ?zqp ?zqq ?zqi ?zqm rfl ?_ ?zqs ?zqt ?zqz; (case zqF => k_asm); (case zqN => k_asm); (case zql => first | exact Fr.lst (by assumption) (by assumption) | exact News.isList (by assumption) (by k_mem)); (case zqp => kmk_part); (case zqq => kmk_part); (case zqi => assumption); (case zqm => first | exact kmk_all (by assumption) | exact kmk_from (by assumption) (by first | assumption | omega) | exact kmk_upto (by assumption) (by first | assumption | omega) | exact kmk_run (by assumption) (by first | assumption | omega) (by first | assumption | omega)); (case zqs => with_unfolding_all rfl); (case zqt => kmk_pure); (case zqz => exact sz_ok (by assumption) (by omega))); intro _ _ _ _ _ zl1 _ zhC zhL; (try k_lt zl1); (try k_sweep); clear zhC zhL) | (refine goOn ?_; with_reducible rename Fr _ _ _ _ => kFq; with_reducible rename News _ _ _ _ => kNq; k_dflt (refine' appD kFq kNq ?zqo ?zqz ?_; (case zqo => first | exact offOne (by assumption) | exact offNil | assumption); (case zqz => first | assumption | omega)); intro _ _ _; clear kFq kNq) | fail); (try k_steps))
    unfold Stop
    rename Fr _ _ _ _ => F4
    rename News _ _ _ _ => N4
    exact done_list F4 N4 (.head _) hI hd
set_option maxHeartbeats 8000000 in
theorem c_add_at {l l2 : Addr} {vs vs2 : List Value} {ns ns2 : List Int} {sp wv : Int} {ts tw : Tok} (G : Gd w p loose mean mg mb b) (hb : b.StaysIn s.heap) (hl : s.heap.IsList l vs.toArray) (hl2 : s.heap.IsList l2 vs2.toArray)
    (hi : IntsAre vs ns) (hi2 : IntsAre vs2 ns2) (hn : ns.length ≤ 100) (hn2 : ns2.length ≤ 100) (hs0 : 0 ≤ sp) (hs1 : sp ≤ 100) (hw0 : 1 ≤ wv) (hw1 : wv ≤ 9) (hr : Row (2 ^ wv.toNat) ns) (hr2 : Row (2 ^ wv.toNat) ns2) :
    codeAny (model PP w) (Ar 980 5000) (.call (.ref 74) ⟨[.ref l, .ref l2, .int sp ts, .int wv tw], []⟩)
      (Done [] (LOut s.heap fun ms => Row (2 ^ wv.toNat) ms ∧ val (2 ^ wv.toNat) ms = val (2 ^ wv.toNat) ns + (2 ^ wv.toNat) ^ sp.toNat * val (2 ^ wv.toNat) ns2 ∧ ms.length ≤ max ns.length (sp.toNat + ns2.length) + 1) s) s := by
  refine' enter0 (binds := [(Str.ofString "a", .ref l), (Str.ofString "b", .ref l2), (Str.ofString "spot", .int sp ts), (Str.ofString "w", .int wv tw)]) G hb ?ho ?hcd ?hr ?hb ?hl ?_ ?c1 ?c2 ?c3 ?c4
  case ho => k_is
  case hcd => k_is
  case hr => first | decide | assumption
  case hb => exact BindsTo.of_eq rfl
  case hl => exact locs rfl
  case c1 => rfl
  case c2 => rfl
  case c3 => rfl
  case c4 => decide
  intro L h₁ F' N' X' T'
  dsimp only [bindsM, List.reverse, List.reverseAux] at F'
  try dsimp only
  k_fold
  k_steps
  repeat' ((first | (refine goOn ?_; k_here; (with_reducible show wpAny _ _ (PySem.call (Value.ref 60) _) _ _ _); (with_reducible rename Fr _ _ _ _ => kFq); (with_reducible rename News _ _ _ _ => kNq); k_dflt (refine' useList (c_add ⟨?zqgx, ?zqgt⟩ kFq.keep ?zqhl ?zqhl2 ?zqhi ?zqhi2 ?zqhn ?zqhn2 ?zqw0 ?zqw1 ?zqr1 ?zqr2) kFq kNq rfl (by first | exact Nat.le_of_ble_eq_true rfl | (dsimp only [Ar]; omega)) (by first | exact Nat.le_of_ble_eq_true rfl | (dsimp only [Ar]; omega)) ?_; (case zqgx => assumption); (case zqgt => assumption); (case zqhl => first | exact Fr.lst kFq (by assumption) | exact News.isList kNq (by k_mem)); (case zqhl2 => first | exact Fr.lst kFq (by assumption) | exact News.isList kNq (by k_mem)); (case zqhi => assumption); (case zqhi2 => assumption); (case zqw0 => assumption); (case zqw1 => assumption); (case zqr1 => first | assumption | exact Row.drop (by assumption) _); (case zqr2 => assumption); (case zqhn => first | with_reducible assumption | exact Nat.le_trans (by with_reducible assumption) (Nat.le_of_ble_eq_true rfl) | omega | (simp only [List.length_drop]; omega)); (case zqhn2 => first | with_reducible assumption | exact Nat.le_trans (by with_reducible assumption) (Nat.le_of_ble_eq_true rfl) | omega)); intro _ _ _ _ _ _ _ _ _ _ zhP; have _ := zhP.1; have _ := zhP.2.1; have _ := zhP.2.2; clear zhP; clear kFq kNq) | (refine goOn ?_; k_dflt (refine' kmk_slice_ints ?zqF ?zqN ?zql ?zqp ?zqq ?zqi ?zqm rfl ?_ ?zqs ?zqt ?zqz; (case zqF => k_asm); (case zqN => k_asm); (case zql => first | exact Fr.lst (by assumption) (by assumption) | exact News.isList (by assumption) (by k_mem)); (case zqp => kmk_part); (case zqq => kmk_part); (case zqi => assumption); (case zqm => first | exact kmk_all (by assumption) | exact kmk_from (by assumption) (by first | assumption | omega) | exact kmk_upto (by assumption) (by first | assumption | omega) | exact kmk_run (by assumption) (by first | assumption | omega) (by first | assumption | omega)); (case zqs => with_unfolding_all rfl); (case zqt => kmk_pure); (case zqz => exact sz_ok (by assumption) (by omega))); intro _ _ _ _ _ zl1 _ zhC zhL; (try k_lt zl1); (try k_sweep); clear zhC zhL) | (refine goOn ?_; with_reducible rename Fr _ _ _ _ => kFq; with_reducible rename News _ _ _ _ => kNq; k_dflt (refine' appD kFq kNq ?zqo ?zqz ?_; (case zqo => first | exact offOne (by assumption) | exact offNil | assumption); (case zqz => first | assumption | omega)); intro _ _ _; clear kFq kNq) | fail); (try k_steps))
  · unfold Stop
    rename Fr _ _ _ _ => F4
    rename News _ _ _ _ => N4
    have e : ns2 = [] := List.eq_nil_of_length_eq_zero (by omega)
    subst e
    exact done_list F4 N4 (.head _) (by assumption) ⟨hr, by simp [val], by omega⟩
  · unfold Stop
    rename Fr _ _ _ _ => F4
    rename News _ _ _ _ => N4
    exact done_list F4 N4 (.head _) (by assumption) (addAt2 (base_gt hw0) hr hr2 (by omega) (by omega))
  · unfold Stop
    rename Fr _ _ _ _ => F4
    rename News _ _ _ _ => N4
    exact done_list F4 N4 (.head _) (by assumption) (addAt3 (base_gt hw0) hr hr2 (by omega) (by assumption) (by assumption) (by assumption))
set_option maxHeartbeats 8000000 in
theorem c_sub {l l2 : Addr} {vs vs2 : List Value} {ns ns2 : List Int} {wv : Int} {tw : Tok} (G : Gd w p loose mean mg mb b) (hb : b.StaysIn s.heap) (hl : s.heap.IsList l vs.toArray) (hl2 : s.heap.IsList l2 vs2.toArray)
    (hi : IntsAre vs ns) (hi2 : IntsAre vs2 ns2) (hn : ns.length ≤ 100) (hn2 : ns2.length ≤ 100) (hw0 : 1 ≤ wv) (hw1 : wv ≤ 9) (hr : Row (2 ^ wv.toNat) ns) (hr2 : Row (2 ^ wv.toNat) ns2) (hge : val (2 ^ wv.toNat) ns2 ≤ val (2 ^ wv.toNat) ns) :
    codeAny (model PP w) (Ar 980 5000) (.call (.ref 67) ⟨[.ref l, .ref l2, .int wv tw], []⟩)
      (Done [] (LOut s.heap fun ms => Row (2 ^ wv.toNat) ms ∧ val (2 ^ wv.toNat) ms = val (2 ^ wv.toNat) ns - val (2 ^ wv.toNat) ns2 ∧ ms.length ≤ ns.length) s) s := by
  refine' enter0 (binds := [(Str.ofString "a", .ref l), (Str.ofString "b", .ref l2), (Str.ofString "w", .int wv tw)]) G hb ?ho ?hcd ?hr ?hb ?hl ?_ ?c1 ?c2 ?c3 ?c4
  case ho => k_is
  case hcd => k_is
  case hr => first | decide | assumption
  case hb => exact BindsTo.of_eq rfl
  case hl => exact locs rfl
  case c1 => rfl
  case c2 => rfl
  case c3 => rfl
  case c4 => decide
  intro L h₁ F' N' X' T'
  dsimp only [bindsM, List.reverse, List.reverseAux] at F'
  try dsimp only
  k_fold
  have hm : ns.length ≤ 200 := by omega
  have hm2 : ns2.length ≤ 200 := by omega
  k_steps
  repeat' ((first | (refine goOn ?_; k_here; (with_reducible show wpAny _ _ (PySem.call (Value.ref 46) _) _ _ _); (with_reducible rename Fr _ _ _ _ => kFq); (with_reducible rename News _ _ _ _ => kNq); k_dflt (refine' useList (c_normal ⟨?zqgx, ?zqgt⟩ kFq.keep ?zqhl ?zqhi ?zqhn) kFq kNq rfl (by first | exact Nat.le_of_ble_eq_true rfl | (dsimp only [Ar]; omega)) (by first | exact Nat.le_of_ble_eq_true rfl | (dsimp only [Ar]; omega)) ?_; (case zqgx => assumption); (case zqgt => assumption); (case zqhl => first | exact Fr.lst kFq (by assumption) | exact News.isList kNq (by k_mem)); (case zqhi => assumption); (case zqhn => first | with_reducible assumption | exact Nat.le_trans (by with_reducible assumption) (Nat.le_of_ble_eq_true rfl) | omega)); intro _ _ _ _ _ _ _ _ _ _ _; clear kFq kNq) | (refine goOn ?_; k_here; (with_reducible show wpAny _ _ (PySem.call (Value.ref 53) _) _ _ _); (with_reducible rename Fr _ _ _ _ => kFq); (with_reducible rename News _ _ _ _ => kNq); k_dflt (refine' useInt (c_compare ⟨?zqgx, ?zqgt⟩ kFq.keep ?zqhl ?zqhl2 ?zqhi ?zqhi2 ?zqhn ?zqhn2) kFq kNq rfl (by first | exact Nat.le_of_ble_eq_true rfl | (dsimp only [Ar]; omega)) (by first | exact Nat.le_of_ble_eq_true rfl | (dsimp only [Ar]; omega)) ?_; (case zqgx => assumption); (case zqgt => assumption); (case zqhl => first | exact Fr.lst kFq (by assumption) | exact News.isList kNq (by k_mem)); (case zqhl2 => first | exact Fr.lst kFq (by assumption) | exact News.isList kNq (by k_mem)); (case zqhi => assumption); (case zqhi2 => assumption); (case zqhn => first | with_reducible assumption | exact Nat.le_trans (by with_reducible assumption) (Nat.le_of_ble_eq_true rfl) | omega); (case zqhn2 => first | with_reducible assumption | exact Nat.le_trans (by with_reducible assumption) (Nat.le_of_ble_eq_true rfl) | omega)); intro _ _ _ _ _ _ zhP; (try replace zhP := zhP.neg (base_gt (by assumption)) (by assumption) (by assumption)); clear kFq kNq) | (refine goOn ?_; k_here; (with_reducible show wpAny _ _ (PySem.call (Value.ref 60) _) _ _ _); (with_reducible rename Fr _ _ _ _ => kFq); (with_reducible rename News _ _ _ _ => kNq); k_dflt (refine' useList (c_add ⟨?zqgx, ?zqgt⟩ kFq.keep ?zqhl ?zqhl2 ?zqhi ?zqhi2 ?zqhn ?zqhn2 ?zqw0 ?zqw1 ?zqr1 ?zqr2) kFq kNq rfl (by first | exact Nat.le_of_ble_eq_true rfl | (dsimp only [Ar]; omega)) (by first | exact Nat.le_of_ble_eq_true rfl | (dsimp only [Ar]; omega)) ?_; (case zqgx => assumption); (case zqgt => assumption); (case zqhl => first | exact Fr.lst kFq (by assumption) | exact News.isList kNq (by k_mem)); (case zqhl2 => first | exact Fr.lst kFq (by assumption) | exact News.isList kNq (by k_mem)); (case zqhi => assumption); (case zqhi2 => assumption); (case zqw0 => assumption); (case zqw1 => assumption); (case zqr1 => first | assumption | exact Row.drop (by assumption) _); (case zqr2 => assumption); (case zqhn => first | with_reducible assumption | exact Nat.le_trans (by with_reducible assumption) (Nat.le_of_ble_eq_true rfl) | omega | (simp only [List.length_drop]; omega)); (case zqhn2 => first | with_reducible assumption | exact Nat.le_trans (by with_reducible assumption) (Nat.le_of_ble_eq_true rfl) | omega)); intro _ _ _ _ _ _ _ _ _ _ zhP; have _ := zhP.1; have _ := zhP.2.1; have _ := zhP.2.2; clear zhP; clear kFq kNq) | (refine goOn ?_; k_dflt (refine' kmk_slice_ints ?zqF ?zqN ?zql ?zqp ?zqq ?zqi ?zqm rfl ?_ ?zqs ?zqt ?zqz; (case zqF => k_asm); (case zqN => k_asm); (case zql => first | exact Fr.lst (by assumption) (by assumption) | exact News.isList (by assumption) (by k_mem)); (case zqp => kmk_part); (case zqq => kmk_part); (case zqi => assumption); (case zqm => first | exact kmk_all (by assumption) | exact kmk_from (by assumption) (by first | assumption | omega) | exact kmk_upto (by assumption) (by first | assumption | omega) | exact kmk_run (by assumption) (by first | assumption | omega) (by first | assumption | omega)); (case zqs => with_unfolding_all rfl); (case zqt => kmk_pure); (case zqz => exact sz_ok (by assumption) (by omega))); intro _ _ _ _ _ zl1 _ zhC zhL; (try k_lt zl1); (try k_sweep); clear zhC zhL) | (refine goOn ?_; with_reducible rename Fr _ _ _ _ => kFq; with_reducible rename News _ _ _ _ => kNq; k_dflt (refine' appD kFq kNq ?zqo ?zqz ?_; (case zqo => first | exact offOne (by assumption) | exact offNil | assumption); (case zqz => first | assumption | omega)); intro _ _ _; clear kFq kNq) | fail); (try k_steps))
  unfold Stop
  rename Fr _ _ _ _ => F'
  refine For_invVF F' (by rfl) (by rfl) ?_
  k_steps
  repeat' ((first | (refine goOn ?_; k_here; (with_reducible show wpAny _ _ (PySem.call (Value.ref 46) _) _ _ _); (with_reducible rename Fr _ _ _ _ => kFq); (with_reducible rename News _ _ _ _ => kNq); k_dflt (refine' useList (c_normal ⟨?zqgx, ?zqgt⟩ kFq.keep ?zqhl ?zqhi ?zqhn) kFq kNq rfl (by first | exact Nat.le_of_ble_eq_true rfl | (dsimp only [Ar]; omega)) (by first | exact Nat.le_of_ble_eq_true rfl | (dsimp only [Ar]; omega)) ?_; (case zqgx => assumption); (case zqgt => assumption); (case zqhl => first | exact Fr.lst kFq (by assumption) | exact News.isList kNq (by k_mem)); (case zqhi => assumption); (case zqhn => first | with_reducible assumption | exact Nat.le_trans (by with_reducible assumption) (Nat.le_of_ble_eq_true rfl) | omega)); intro _ _ _ _ _ _ _ _ _ _ _; clear kFq kNq) | (refine goOn ?_; k_here; (with_reducible show wpAny _ _ (PySem.call (Value.ref 53) _) _ _ _); (with_reducible rename Fr _ _ _ _ => kFq); (with_reducible rename News _ _ _ _ => kNq); k_dflt (refine' useInt (c_compare ⟨?zqgx, ?zqgt⟩ kFq.keep ?zqhl ?zqhl2 ?zqhi ?zqhi2 ?zqhn ?zqhn2) kFq kNq rfl (by first | exact Nat.le_of_ble_eq_true rfl | (dsimp only [Ar]; omega)) (by first | exact Nat.le_of_ble_eq_true rfl | (dsimp only [Ar]; omega)) ?_; (case zqgx => assumption); (case zqgt => assumption); (case zqhl => first | exact Fr.lst kFq (by assumption) | exact News.isList kNq (by k_mem)); (case zqhl2 => first | exact Fr.lst kFq (by assumption) | exact News.isList kNq (by k_mem)); (case zqhi => assumption); (case zqhi2 => assumption); (case zqhn => first | with_reducible assumption | exact Nat.le_trans (by with_reducible assumption) (Nat.le_of_ble_eq_true rfl) | omega); (case zqhn2 => first | with_reducible assumption | exact Nat.le_trans (by with_reducible assumption) (Nat.le_of_ble_eq_true rfl) | omega)); intro _ _ _ _ _ _ zhP; (try replace zhP := zhP.neg (base_gt (by assumption)) (by assumption) (by assumption)); clear kFq kNq) | (refine goOn ?_; k_here; (with_reducible show wpAny _ _ (PySem.call (Value.ref 60) _) _ _ _); (with_reducible rename Fr _ _ _ _ => kFq); (with_reducible rename News _ _ _ _ => kNq); k_dflt (refine' useList (c_add ⟨?zqgx, ?zqgt⟩ kFq.keep ?zqhl ?zqhl2 ?zqhi ?zqhi2 ?zqhn ?zqhn2 ?zqw0 ?zqw1 ?zqr1 ?zqr2) kFq kNq rfl (by first | exact Nat.le_of_ble_eq_true rfl | (dsimp only [Ar]; omega)) (by first | exact Nat.le_of_ble_eq_true rfl | (dsimp only [Ar]; omega)) ?_; (case zqgx => assumption); (case zqgt => assumption); (case zqhl => first | exact Fr.lst kFq (by assumption) | exact News.isList kNq (by k_mem)); (case zqhl2 => first | exact Fr.lst kFq (by assumption) | exact News.isList kNq (by k_mem)); (case zqhi => assumption); (case zqhi2 => assumption); (case zqw0 => assumption); (case zqw1 => assumption); (case zqr1 => first | assumption | exact Row.drop (by assumption) _); (case zqr2 => assumption); (case zqhn => first | with_reducible assumption | exact Nat.le_trans (by with_reducible assumption) (Nat.le_of_ble_eq_true rfl) | omega | (simp only [List.length_drop]; omega)); (case zqhn2 => first | with_reducible assumption | exact Nat.le_trans (by with_reducible assumption) (Nat.le_of_ble_eq_true rfl) | omega)); intro _ _ _ _ _ _ _ _ _ _ zhP; have _ := zhP.1; have _ := zhP.2.1; have _ := zhP.2.2; clear zhP; clear kFq kNq) | (refine goOn ?_; k_dflt (refine' kmk_slice_ints ?zqF ?zqN ?zql ?zqp ?zqq ?zqi ?zqm rfl ?_ ?zqs ?zqt ?zqz; (case zqF => k_asm); (case zqN => k_asm); (case zql => first | exact Fr.lst (by assumption) (by assumption) | exact News.isList (by assumption) (by k_mem)); (case zqp => kmk_part); (case zqq => kmk_part); (case zqi => assumption); (case zqm => first | exact kmk_all (by assumption) | exact kmk_from (by assumption) (by first | assumption | omega) | exact kmk_upto (by assumption) (by first | assumption | omega) | exact kmk_run (by assumption) (by first | assumption | omega) (by first | assumption | omega)); (case zqs => with_unfolding_all rfl); (case zqt => kmk_pure); (case zqz => exact sz_ok (by assumption) (by omega))); intro _ _ _ _ _ zl1 _ zhC zhL; (try k_lt zl1); (try k_sweep); clear zhC zhL) | (refine goOn ?_; with_reducible rename Fr _ _ _ _ => kFq; with_reducible rename News _ _ _ _ => kNq; k_dflt (refine' appD kFq kNq ?zqo ?zqz ?_; (case zqo => first | exact offOne (by assumption) | exact offNil | assumption); (case zqz => first | assumption | omega)); intro _ _ _; clear kFq kNq) | fail); (try k_steps))
  unfold Stop
  dsimp only
  rename IsRange _ _ _ _ _ _ _ _ => R'
  rename Fr _ _ _ _ => F2
  rename News _ _ _ _ => N2
  replace N2 := fun q hq => N2 q (.tail _ hq)
  refine loopLI (n := ns.length) (Str.ofString "borrow") [Str.ofString "limb"] (SubI (2 ^ wv.toNat) ns ns2) rfl R' ?sm ?rs F2 N2 IntsAre.nil rfl (SubI.zero _ _ _) ?_ ?_
  case sm => exact small_one (by omega) (by omega) (by omega) (by omega)
  case rs => rw [rangeSize_nat]; omega
  · clear F2 N2 R'
    intro us ms e cy ct i k t u h2 tk2 own hk hlt hoff hI hP F3 N3
    try dsimp only
    k_fold
    have hz : us.length ≤ 10000 := by rw [hI.length, hP.1]; omega
    k_steps
    repeat' ((first | (refine goOn ?_; k_here; (with_reducible show wpAny _ _ (PySem.call (Value.ref 46) _) _ _ _); (with_reducible rename Fr _ _ _ _ => kFq); (with_reducible rename News _ _ _ _ => kNq); k_dflt (refine' useList (c_normal ⟨?zqgx, ?zqgt⟩ kFq.keep ?zqhl ?zqhi ?zqhn) kFq kNq rfl (by first | exact Nat.le_of_ble_eq_true rfl | (dsimp only [Ar]; omega)) (by first | exact Nat.le_of_ble_eq_true rfl | (dsimp only [Ar]; omega)) ?_; (case zqgx => assumption); (case zqgt => assumption); (case zqhl => first | exact Fr.lst kFq (by assumption) | exact News.isList kNq (by k_mem)); (case zqhi => assumption); (case zqhn => first | with_reducible assumption | exact Nat.le_trans (by with_reducible assumption) (Nat.le_of_ble_eq_true rfl) | omega)); intro _ _ _ _ _ _ _ _ _ _ _; clear kFq kNq) | (refine goOn ?_; k_here; (with_reducible show wpAny _ _ (PySem.call (Value.ref 53) _) _ _ _); (with_reducible rename Fr _ _ _ _ => kFq); (with_reducible rename News _ _ _ _ => kNq); k_dflt (refine' useInt (c_compare ⟨?zqgx, ?zqgt⟩ kFq.keep ?zqhl ?zqhl2 ?zqhi ?zqhi2 ?zqhn ?zqhn2) kFq kNq rfl (by first | exact Nat.le_of_ble_eq_true rfl | (dsimp only [Ar]; omega)) (by first | exact Nat.le_of_ble_eq_true rfl | (dsimp only [Ar]; omega)) ?_; (case zqgx => assumption); (case zqgt => assumption); (case zqhl => first | exact Fr.lst kFq (by assumption) | exact News.isList kNq (by k_mem)); (case zqhl2 => first | exact Fr.lst kFq (by assumption) | exact News.isList kNq (by k_mem)); (case zqhi => assumption); (case zqhi2 => assumption); (case zqhn => first | with_reducible assumption | exact Nat.le_trans (by with_reducible assumption) (Nat.le_of_ble_eq_true rfl) | omega); (case zqhn2 => first | with_reducible assumption | exact Nat.le_trans (by with_reducible assumption) (Nat.le_of_ble_eq_true rfl) | omega)); intro _ _ _ _ _ _ zhP; (try replace zhP := zhP.neg (base_gt (by assumption)) (by assumption) (by assumption)); clear kFq kNq) | (refine goOn ?_; k_here; (with_reducible show wpAny _ _ (PySem.call (Value.ref 60) _) _ _ _); (with_reducible rename Fr _ _ _ _ => kFq); (with_reducible rename News _ _ _ _ => kNq); k_dflt (refine' useList (c_add ⟨?zqgx, ?zqgt⟩ kFq.keep ?zqhl ?zqhl2 ?zqhi ?zqhi2 ?zqhn ?zqhn2 ?zqw0 ?zqw1 ?zqr1 ?zqr2) kFq kNq rfl (by first | exact Nat.le_of_ble_eq_true rfl | (dsimp only [Ar]; omega)) (by first | exact Nat.le_of_ble_eq_true rfl | (dsimp only [Ar]; omega)) ?_; (case zqgx => assumption); (case zqgt => assumption); (case zqhl => first | exact Fr.lst kFq (by assumption) | exact News.isList kNq (by k_mem)); (case zqhl2 => first | exact Fr.lst kFq (by assumption) | exact News.isList kNq (by k_mem)); (case zqhi => assumption); (case zqhi2 => assumption); (case zqw0 => assumption); (case zqw1 => assumption); (case zqr1 => first | assumption | exact Row.drop (by assumption) _); (case zqr2 => assumption); (case zqhn => first | with_reducible assumption | exact Nat.le_trans (by with_reducible assumption) (Nat.le_of_ble_eq_true rfl) | omega | (simp only [List.length_drop]; omega)); (case zqhn2 => first | with_reducible assumption | exact Nat.le_trans (by with_reducible assumption) (Nat.le_of_ble_eq_true rfl) | omega)); intro _ _ _ _ _ _ _ _ _ _ zhP; have _ := zhP.1; have _ := zhP.2.1; have _ := zhP.2.2; clear zhP; clear kFq kNq) | (refine goOn ?_; k_dflt (refine' kmk_slice_ints ?zqF ?zqN ?zql ?zqp ?zqq ?zqi ?zqm rfl ?_ ?zqs ?zqt ?zqz; (case zqF => k_asm); (case zqN => k_asm); (case zql => first | exact Fr.lst (by assumption) (by assumption) | exact News.isList (by assumption) (by k_mem)); (case zqp => kmk_part); (case zqq => kmk_part); (case zqi => assumption); (case zqm => first | exact kmk_all (by assumption) | exact kmk_from (by assumption) (by first | assumption | omega) | exact kmk_upto (by assumption) (by first | assumption | omega) | exact kmk_run (by assumption) (by first | assumption | omega) (by first | assumption | omega)); (case zqs => with_unfolding_all rfl); (case zqt => kmk_pure); (case zqz => exact sz_ok (by assumption) (by omega))); intro _ _ _ _ _ zl1 _ zhC zhL; (try k_lt zl1); (try k_sweep); clear zhC zhL) | (refine goOn ?_; with_reducible rename Fr _ _ _ _ => kFq; with_reducible rename News _ _ _ _ => kNq; k_dflt (refine' appD kFq kNq ?zqo ?zqz ?_; (case zqo => first | exact offOne (by assumption) | exact offNil | assumption); (case zqz => first | assumption | omega)); intro _ _ _; clear kFq kNq) | fail); (try k_steps))
    · unfold Stop
      rename Fr _ _ _ _ => F4
      rename News _ _ _ _ => N4
      refine LIEnd.intro F4 N4 (.head _) (fun q hq => .tail _ hq) (ints_snoc hI _ _) rfl (fun z h1 h2 h3 => ?_) ?_
      · have h4 : z ≠ Str.ofString "limb" := by simpa using h3
        simp [h1, h2, h4]
      · have hk' : k.toNat = i := by omega
        have hst := hP.step (base_gt hw0) hr.1 hr2.1 (x := ns.getD k.toNat 0 - cy - ns2.getD k.toNat 0) (by rw [hk'])
        rw [if_pos (by omega), if_pos (by omega)] at hst
        rw [Int.one_mul]
        exact hst
    · unfold Stop
      rename Fr _ _ _ _ => F4
      rename News _ _ _ _ => N4
      refine LIEnd.intro F4 N4 (.head _) (fun q hq => .tail _ hq) (ints_snoc hI _ _) rfl (fun z h1 h2 h3 => ?_) ?_
      · have h4 : z ≠ Str.ofString "limb" := by simpa using h3
        simp [h1, h2, h4]
      · have hk' : k.toNat = i := by omega
        have hst := hP.step (base_gt hw0) hr.1 hr2.1 (x := ns.getD k.toNat 0 - cy - ns2.getD k.toNat 0) (by rw [hk'])
        rw [if_neg (by omega), if_neg (by omega)] at hst
        exact hst
    · unfold Stop
      rename Fr _ _ _ _ => F4
      rename News _ _ _ _ => N4
      refine LIEnd.intro F4 N4 (.head _) (fun q hq => .tail _ hq) (ints_snoc hI _ _) rfl (fun z h1 h2 h3 => ?_) ?_
      · have h4 : z ≠ Str.ofString "limb" := by simpa using h3
        simp [h1, h2, h4]
      · have hk' : k.toNat = i := by omega
        have hst := hP.step (base_gt hw0) hr.1 hr2.1 (x := ns.getD k.toNat 0 - cy - 0) (by rw [hk', getD_out (a := ns2) (by omega)])
        rw [if_pos (by omega), if_pos (by omega)] at hst
        rw [Int.one_mul]
        exact hst
    · unfold Stop
      rename Fr _ _ _ _ => F4
      rename News _ _ _ _ => N4
      refine LIEnd.intro F4 N4 (.head _) (fun q hq => .tail _ hq) (ints_snoc hI _ _) rfl (fun z h1 h2 h3 => ?_) ?_
      · have h4 : z ≠ Str.ofString "limb" := by simpa using h3
        simp [h1, h2, h4]
      · have hk' : k.toNat = i := by omega
        have hst := hP.step (base_gt hw0) hr.1 hr2.1 (x := ns.getD k.toNat 0 - cy - 0) (by rw [hk', getD_out (a := ns2) (by omega)])
        rw [if_neg (by omega), if_neg (by omega)] at hst
        exact hst
  · clear F2 N2 R'
    intro us ms e cy ct u h2 tk2 hI hP F3 N3
    have hd := hP.done (base_gt hw0) hr hr2 hge
    have hz : ms.length ≤ 200 := by omega
    dsimp only
    k_steps
    repeat' ((first | (refine goOn ?_; k_here; (with_reducible show wpAny _ _ (PySem.call (Value.ref 46) _) _ _ _); (with_reducible rename Fr _ _ _ _ => kFq); (with_reducible rename News _ _ _ _ => kNq); k_dflt (refine' useList (c_normal ⟨?zqgx, ?zqgt⟩ kFq.keep ?zqhl ?zqhi ?zqhn) kFq kNq rfl (by first | exact Nat.le_of_ble_eq_true rfl | (dsimp only [Ar]; omega)) (by first | exact Nat.le_of_ble_eq_true rfl | (dsimp only [Ar]; omega)) ?_; (case zqgx => assumption); (case zqgt => assumption); (case zqhl => first | exact Fr.lst kFq (by assumption) | exact News.isList kNq (by k_mem)); (case zqhi => assumption); (case zqhn => first | with_reducible assumption | exact Nat.le_trans (by with_reducible assumption) (Nat.le_of_ble_eq_true rfl) | omega)); intro _ _ _ _ _ _ _ _ _ _ _; clear kFq kNq) | (refine goOn ?_; k_here; (with_reducible show wpAny _ _ (PySem.call (Value.ref 53) _) _ _ _); (with_reducible rename Fr _ _ _ _ => kFq); (with_reducible rename News _ _ _ _ => kNq); k_dflt (refine' useInt (c_compare ⟨?zqgx, ?zqgt⟩ kFq.keep ?zqhl ?zqhl2 ?zqhi ?zqhi2 ?zqhn ?zqhn2) kFq kNq rfl (by first | exact Nat.le_of_ble_eq_true rfl | (dsimp only [Ar]; omega)) (by first | exact Nat.le_of_ble_eq_true rfl | (dsimp only [Ar]; omega)) ?_; (case zqgx => assumption); (case zqgt => assumption); (case zqhl => first | exact Fr.lst kFq (by assumption) | exact News.isList kNq (by k_mem)); (case zqhl2 => first | exact Fr.lst kFq (by assumption) | exact News.isList kNq (by k_mem)); (case zqhi => assumption); (case zqhi2 => assumption); (case zqhn => first | with_reducible assumption | exact Nat.le_trans (by with_reducible assumption) (Nat.le_of_ble_eq_true rfl) | omega); (case zqhn2 => first | with_reducible assumption | exact Nat.le_trans (by with_reducible assumption) (Nat.le_of_ble_eq_true rfl) | omega)); intro _ _ _ _ _ _ zhP; (try replace zhP := zhP.neg (base_gt (by assumption)) (by assumption) (by assumption)); clear kFq kNq) | (refine goOn ?_; k_here; (with_reducible show wpAny _ _ (PySem.call (Value.ref 60) _) _ _ _); (with_reducible rename Fr _ _ _ _ => kFq); (with_reducible rename News _ _ _ _ => kNq); k_dflt (refine' useList (c_add ⟨?zqgx, ?zqgt⟩ kFq.keep ?zqhl ?zqhl2 ?zqhi ?zqhi2 ?zqhn ?zqhn2 ?zqw0 ?zqw1 ?zqr1 ?zqr2) kFq kNq rfl (by first | exact Nat.le_of_ble_eq_true rfl | (dsimp only [Ar]; omega)) (by first | exact Nat.le_of_ble_eq_true rfl | (dsimp only [Ar]; omega)) ?_; (case zqgx => assumption); (case zqgt => assumption); (case zqhl => first | exact Fr.lst kFq (by assumption) | exact News.isList kNq (by k_mem)); (case zqhl2 => first | exact Fr.lst kFq (by assumption) | exact News.isList kNq (by k_mem)); (case zqhi => assumption); (case zqhi2 => assumption); (case zqw0 => assumption); (case zqw1 => assumption); (case zqr1 => first | assumption | exact Row.drop (by assumption) _); (case zqr2 => assumption); (case zqhn => first | with_reducible assumption | exact Nat.le_trans (by with_reducible assumption) (Nat.le_of_ble_eq_true rfl) | omega | (simp only [List.length_drop]; omega)); (case zqhn2 => first | with_reducible assumption | exact Nat.le_trans (by with_reducible assumption) (Nat.le_of_ble_eq_true rfl) | omega)); intro _ _ _ _ _ _ _ _ _ _ zhP; have _ := zhP.1; have _ := zhP.2.1; have _ := zhP.2.2; clear zhP; clear kFq kNq) | (refine goOn ?_; k_dflt (refine' kmk_slice_ints ?zqF ?zqN ?zql ?zqp ?zqq ?zqi ?zqm rfl ?_ ?zqs ?zqt ?zqz; (case zqF => k_asm); (case zqN => k_asm); (case zql => first | exact Fr.lst (by assumption) (by assumption) | exact News.isList (by assumption) (by k_mem)); (case zqp => kmk_part); (case zqq => kmk_part); (case zqi => assumption); (case zqm => first | exact kmk_all (by assumption) | exact kmk_from (by assumption) (by first | assumption | omega) | exact kmk_upto (by assumption) (by first | assumption | omega) | exact kmk_run (by assumption) (by first | assumption | omega) (by first | assumption | omega)); (case zqs => with_unfolding_all rfl); (case zqt => kmk_pure); (case zqz => exact sz_ok (by assumption) (by omega))); intro _ _ _ _ _ zl1 _ zhC zhL; (try k_lt zl1); (try k_sweep); clear zhC zhL) | (refine goOn ?_; with_reducible rename Fr _ _ _ _ => kFq; with_reducible rename News _ _ _ _ => kNq; k_dflt (refine' appD kFq kNq ?zqo ?zqz ?_; (case zqo => first | exact offOne (by assumption) | exact offNil | assumption); (case zqz => first | assumption | omega)); intro _ _ _; clear kFq kNq) | fail); (try k_steps))
    unfold Stop
    rename Fr _ _ _ _ => F4
    rename News _ _ _ _ => N4
    rename Nrm _ _ => hN
    refine done_list F4 N4 (.head _) (by assumption) ⟨hN.row hd.1, by rw [hN.val]; exact hd.2.1, ?_⟩
    have := hN.len
    omega
set_option maxHeartbeats 8000000 in
theorem c_split {l : Addr} {vs : List Value} {ns : List Int} {sp : Int} {ts : Tok} (G : Gd w p loose mean mg mb b) (hb : b.StaysIn s.heap) (hl : s.heap.IsList l vs.toArray)
    (hi : IntsAre vs ns) (hn : ns.length ≤ 100) (hs0 : 0 ≤ sp) (hs1 : sp ≤ 100) :
    codeAny (model PP w) (Ar 980 5000) (.call (.ref 81) ⟨[.ref l, .int sp ts], []⟩)
      (Done [] (PairOut s.heap fun ms ms' => Nrm (ns.take sp.toNat) ms ∧ ms' = ns.drop sp.toNat) s) s := by
  refine' enter0 (binds := [(Str.ofString "a", .ref l), (Str.ofString "spot", .int sp ts)]) G hb ?ho ?hcd ?hr ?hb ?hl ?_ ?c1 ?c2 ?c3 ?c4
  case ho => k_is
  case hcd => k_is
  case hr => first | decide | assumption
  case hb => exact BindsTo.of_eq rfl
  case hl => exact locs rfl
  case c1 => rfl
  case c2 => rfl
  case c3 => rfl
  case c4 => decide
  intro L h₁ F' N' X' T'
  dsimp only [bindsM, List.reverse, List.reverseAux] at F'
  try dsimp only
  k_fold
  have hm : (ns.take sp.toNat).length ≤ 200 := by rw [List.length_take]; exact Nat.le_trans (Nat.min_le_right _ _) (Nat.le_trans hn (by decide))
  k_steps
  repeat' ((first | (refine goOn ?_; k_here; (with_reducible show wpAny _ _ (PySem.call (Value.ref 46) _) _ _ _); (with_reducible rename Fr _ _ _ _ => kFq); (with_reducible rename News _ _ _ _ => kNq); k_dflt (refine' useList (c_normal ⟨?zqgx, ?zqgt⟩ kFq.keep ?zqhl ?zqhi ?zqhn) kFq kNq rfl (by first | exact Nat.le_of_ble_eq_true rfl | (dsimp only [Ar]; omega)) (by first | exact Nat.le_of_ble_eq_true rfl | (dsimp only [Ar]; omega)) ?_; (case zqgx => assumption); (case zqgt => assumption); (case zqhl => first | exact Fr.lst kFq (by assumption) | exact News.isList kNq (by k_mem)); (case zqhi => assumption); (case zqhn => first | with_reducible assumption | exact Nat.le_trans (by with_reducible assumption) (Nat.le_of_ble_eq_true rfl) | omega)); intro _ _ _ _ _ _ _ _ _ _ _; clear kFq kNq) | (refine goOn ?_; k_dflt (refine' kmk_slice_ints ?zqF ?zqN ?zql ?zqp ?zqq ?zqi ?zqm rfl ?_ ?zqs ?zqt ?zqz; (case zqF => k_asm); (case zqN => k_asm); (case zql => first | exact Fr.lst (by assumption) (by assumption) | exact News.isList (by assumption) (by k_mem)); (case zqp => kmk_part); (case zqq => kmk_part); (case zqi => assumption); (case zqm => first | exact kmk_all (by assumption) | exact kmk_from (by assumption) (by first | assumption | omega) | exact kmk_upto (by assumption) (by first | assumption | omega) | exact kmk_run (by assumption) (by first | assumption | omega) (by first | assumption | omega)); (case zqs => with_unfolding_all rfl); (case zqt => kmk_pure); (case zqz => exact sz_ok (by assumption) (by omega))); intro _ _ _ _ _ zl1 _ zhC zhL; (try k_lt zl1); (try k_sweep); clear zhC zhL) | (refine goOn ?_; with_reducible rename Fr _ _ _ _ => kFq; with_reducible rename News _ _ _ _ => kNq; k_dflt (refine' appD kFq kNq ?zqo ?zqz ?_; (case zqo => first | exact offOne (by assumption) | exact offNil | assumption); (case zqz => first | assumption | omega)); intro _ _ _; clear kFq kNq) | fail); (try k_steps))
  unfold Stop
  rename Fr _ _ _ _ => F4
  rename News _ _ _ _ => N4
  exact done_pair F4 N4 (.head _) (.tail _ (.tail _ (.head _))) (.tail _ (.head _)) (by assumption) (by assumption) ⟨by assumption, rfl⟩
set_option maxHeartbeats 8000000 in
theorem c_piece {l : Addr} {vs : List Value} {ns : List Int} {sp ep : Int} {ts te : Tok} (G : Gd w p loose mean mg mb b) (hb : b.StaysIn s.heap) (hl : s.heap.IsList l vs.toArray)
    (hi : IntsAre vs ns) (hn : ns.length ≤ 100) (hs0 : 0 ≤ sp) (he0 : 0 ≤ ep) :
    codeAny (model PP w) (Ar 980 5000) (.call (.ref 88) ⟨[.ref l, .int sp ts, .int ep te], []⟩)
      (Done [] (LOut s.heap (Nrm ((ns.drop sp.toNat).take (min ep.toNat ns.length - sp.toNat)))) s) s := by
  refine' enter0 (binds := [(Str.ofString "a", .ref l), (Str.ofString "begin", .int sp ts), (Str.ofString "end", .int ep te)]) G hb ?ho ?hcd ?hr ?hb ?hl ?_ ?c1 ?c2 ?c3 ?c4
  case ho => k_is
  case hcd => k_is
  case hr => first | decide | assumption
  case hb => exact BindsTo.of_eq rfl
  case hl => exact locs rfl
  case c1 => rfl
  case c2 => rfl
  case c3 => rfl
  case c4 => decide
  intro L h₁ F' N' X' T'
  dsimp only [bindsM, List.reverse, List.reverseAux] at F'
  try dsimp only
  k_fold
  have hm : ((ns.drop sp.toNat).take (min ep.toNat ns.length - sp.toNat)).length ≤ 200 := by rw [List.length_take, List.length_drop]; exact Nat.le_trans (Nat.min_le_right _ _) (Nat.le_trans (Nat.sub_le _ _) (Nat.le_trans hn (by decide)))
  k_steps
  repeat' ((first | (refine goOn ?_; k_here; (with_reducible show wpAny _ _ (PySem.call (Value.ref 46) _) _ _ _); (with_reducible rename Fr _ _ _ _ => kFq); (with_reducible rename News _ _ _ _ => kNq); k_dflt (refine' useList (c_normal ⟨?zqgx, ?zqgt⟩ kFq.keep ?zqhl ?zqhi ?zqhn) kFq kNq rfl (by first | exact Nat.le_of_ble_eq_true rfl | (dsimp only [Ar]; omega)) (by first | exact Nat.le_of_ble_eq_true rfl | (dsimp only [Ar]; omega)) ?_; (case zqgx => assumption); (case zqgt => assumption); (case zqhl => first | exact Fr.lst kFq (by assumption) | exact News.isList kNq (by k_mem)); (case zqhi => assumption); (case zqhn => first | with_reducible assumption | exact Nat.le_trans (by with_reducible assumption) (Nat.le_of_ble_eq_true rfl) | omega)); intro _ _ _ _ _ _ _ _ _ _ _; clear kFq kNq) | (refine goOn ?_; k_dflt (refine' kmk_slice_ints ?zqF ?zqN ?zql ?zqp ?zqq ?zqi ?zqm rfl ?_ ?zqs ?zqt ?zqz; (case zqF => k_asm); (case zqN => k_asm); (case zql => first | exact Fr.lst (by assumption) (by assumption) | exact News.isList (by assumption) (by k_mem)); (case zqp => kmk_part); (case zqq => kmk_part); (case zqi => assumption); (case zqm => first | exact kmk_all (by assumption) | exact kmk_from (by assumption) (by first | assumption | omega) | exact kmk_upto (by assumption) (by first | assumption | omega) | exact kmk_run (by assumption) (by first | assumption | omega) (by first | assumption | omega)); (case zqs => with_unfolding_all rfl); (case zqt => kmk_pure); (case zqz => exact sz_ok (by assumption) (by omega))); intro _ _ _ _ _ zl1 _ zhC zhL; (try k_lt zl1); (try k_sweep); clear zhC zhL) | (refine goOn ?_; with_reducible rename Fr _ _ _ _ => kFq; with_reducible rename News _ _ _ _ => kNq; k_dflt (refine' appD kFq kNq ?zqo ?zqz ?_; (case zqo => first | exact offOne (by assumption) | exact offNil | assumption); (case zqz => first | assumption | omega)); intro _ _ _; clear kFq kNq) | fail); (try k_steps))
  unfold Stop
  rename Fr _ _ _ _ => F4
  rename News _ _ _ _ => N4
  exact done_list F4 N4 (.head _) (by assumption) (by assumption)
set_option maxHeartbeats 8000000 in
theorem c_difference {l l2 : Addr} {vs vs2 : List Value} {ns ns2 : List Int} {wv : Int} {tw : Tok} (G : Gd w p loose mean mg mb b) (hb : b.StaysIn s.heap) (hl : s.heap.IsList l vs.toArray) (hl2 : s.heap.IsList l2 vs2.toArray)
    (hi : IntsAre vs ns) (hi2 : IntsAre vs2 ns2) (hn : ns.length ≤ 100) (hn2 : ns2.length ≤ 100) (hw0 : 1 ≤ wv) (hw1 : wv ≤ 9) (hr : Row (2 ^ wv.toNat) ns) (hr2 : Row (2 ^ wv.toNat) ns2) :
    codeAny (model PP w) (Ar 975 4000) (.call (.ref 95) ⟨[.ref l, .ref l2, .int wv tw], []⟩)
      (Done [] (BoolOut s.heap fun ms => Row (2 ^ wv.toNat) ms ∧ (val (2 ^ wv.toNat) ms = val (2 ^ wv.toNat) ns - val (2 ^ wv.toNat) ns2 ∨ val (2 ^ wv.toNat) ms = val (2 ^ wv.toNat) ns2 - val (2 ^ wv.toNat) ns) ∧ ms.length ≤ max ns.length ns2.length) s) s := by
  refine' enter0 (binds := [(Str.ofString "a", .ref l), (Str.ofString "b", .ref l2), (Str.ofString "w", .int wv tw)]) G hb ?ho ?hcd ?hr ?hb ?hl ?_ ?c1 ?c2 ?c3 ?c4
  case ho => k_is
  case hcd => k_is
  case hr => first | decide | assumption
  case hb => exact BindsTo.of_eq rfl
  case hl => exact locs rfl
  case c1 => rfl
  case c2 => rfl
  case c3 => rfl
  case c4 => decide
  intro L h₁ F' N' X' T'
  dsimp only [bindsM, List.reverse, List.reverseAux] at F'
  try dsimp only
  k_fold
  have hm : ns.length ≤ 200 := by omega
  have hm2 : ns2.length ≤ 200 := by omega
  k_steps
  repeat' ((first | (refine goOn ?_; k_here; (with_reducible show wpAny _ _ (PySem.call (Value.ref 46) _) _ _ _); (with_reducible rename Fr _ _ _ _ => kFq); (with_reducible rename News _ _ _ _ => kNq); k_dflt (refine' useList (c_normal ⟨?zqgx, ?zqgt⟩ kFq.keep ?zqhl ?zqhi ?zqhn) kFq kNq rfl (by first | exact Nat.le_of_ble_eq_true rfl | (dsimp only [Ar]; omega)) (by first | exact Nat.le_of_ble_eq_true rfl | (dsimp only [Ar]; omega)) ?_; (case zqgx => assumption); (case zqgt => assumption); (case zqhl => first | exact Fr.lst kFq (by assumption) | exact News.isList kNq (by k_mem)); (case zqhi => assumption); (case zqhn => first | with_reducible assumption | exact Nat.le_trans (by with_reducible assumption) (Nat.le_of_ble_eq_true rfl) | omega)); intro _ _ _ _ _ _ _ _ _ _ _; clear kFq kNq) | (refine goOn ?_; k_here; (with_reducible show wpAny _ _ (PySem.call (Value.ref 53) _) _ _ _); (with_reducible rename Fr _ _ _ _ => kFq); (with_reducible rename News _ _ _ _ => kNq); k_dflt (refine' useInt (c_compare ⟨?zqgx, ?zqgt⟩ kFq.keep ?zqhl ?zqhl2 ?zqhi ?zqhi2 ?zqhn ?zqhn2) kFq kNq rfl (by first | exact Nat.le_of_ble_eq_true rfl | (dsimp only [Ar]; omega)) (by first | exact Nat.le_of_ble_eq_true rfl | (dsimp only [Ar]; omega)) ?_; (case zqgx => assumption); (case zqgt => assumption); (case zqhl => first | exact Fr.lst kFq (by assumption) | exact News.isList kNq (by k_mem)); (case zqhl2 => first | exact Fr.lst kFq (by assumption) | exact News.isList kNq (by k_mem)); (case zqhi => assumption); (case zqhi2 => assumption); (case zqhn => first | with_reducible assumption | exact Nat.le_trans (by with_reducible assumption) (Nat.le_of_ble_eq_true rfl) | omega); (case zqhn2 => first | with_reducible assumption | exact Nat.le_trans (by with_reducible assumption) (Nat.le_of_ble_eq_true rfl) | omega)); intro _ _ _ _ _ _ zhP; (try replace zhP := zhP.neg (base_gt (by assumption)) (by assumption) (by assumption)); clear kFq kNq) | (refine goOn ?_; k_here; (with_reducible show wpAny _ _ (PySem.call (Value.ref 67) _) _ _ _); (with_reducible rename Fr _ _ _ _ => kFq); (with_reducible rename News _ _ _ _ => kNq); k_dflt (refine' useList (c_sub ⟨?zqgx, ?zqgt⟩ kFq.keep ?zqhl ?zqhl2 ?zqhi ?zqhi2 ?zqhn ?zqhn2 ?zqw0 ?zqw1 ?zqr1 ?zqr2 ?zqge) kFq kNq rfl (by first | exact Nat.le_of_ble_eq_true rfl | (dsimp only [Ar]; omega)) (by first | exact Nat.le_of_ble_eq_true rfl | (dsimp only [Ar]; omega)) ?_; (case zqgx => assumption); (case zqgt => assumption); (case zqhl => first | exact Fr.lst kFq (by assumption) | exact News.isList kNq (by k_mem)); (case zqhl2 => first | exact Fr.lst kFq (by assumption) | exact News.isList kNq (by k_mem)); (case zqhi => assumption); (case zqhi2 => assumption); (case zqw0 => assumption); (case zqw1 => assumption); (case zqr1 => assumption); (case zqr2 => assumption); (case zqhn => first | with_reducible assumption | exact Nat.le_trans (by with_reducible assumption) (Nat.le_of_ble_eq_true rfl) | omega); (case zqhn2 => first | with_reducible assumption | exact Nat.le_trans (by with_reducible assumption) (Nat.le_of_ble_eq_true rfl) | omega); (case zqge => first | assumption | omega)); intro _ _ _ _ _ _ _ _ _ _ zhP; have _ := zhP.1; have _ := zhP.2.1; have _ := zhP.2.2; clear zhP; clear kFq kNq) | (refine goOn ?_; k_dflt (refine' kmk_slice_ints ?zqF ?zqN ?zql ?zqp ?zqq ?zqi ?zqm rfl ?_ ?zqs ?zqt ?zqz; (case zqF => k_asm); (case zqN => k_asm); (case zql => first | exact Fr.lst (by assumption) (by assumption) | exact News.isList (by assumption) (by k_mem)); (case zqp => kmk_part); (case zqq => kmk_part); (case zqi => assumption); (case zqm => first | exact kmk_all (by assumption) | exact kmk_from (by assumption) (by first | assumption | omega) | exact kmk_upto (by assumption) (by first | assumption | omega) | exact kmk_run (by assumption) (by first | assumption | omega) (by first | assumption | omega)); (case zqs => with_unfolding_all rfl); (case zqt => kmk_pure); (case zqz => exact sz_ok (by assumption) (by omega))); intro _ _ _ _ _ zl1 _ zhC zhL; (try k_lt zl1); (try k_sweep); clear zhC zhL) | (refine goOn ?_; with_reducible rename Fr _ _ _ _ => kFq; with_reducible rename News _ _ _ _ => kNq; k_dflt (refine' appD kFq kNq ?zqo ?zqz ?_; (case zqo => first | exact offOne (by assumption) | exact offNil | assumption); (case zqz => first | assumption | omega)); intro _ _ _; clear kFq kNq) | fail); (try k_steps))
  · unfold Stop
    rename Fr _ _ _ _ => F4
    rename News _ _ _ _ => N4
    exact done_bool F4 N4 (.head _) (.tail _ (.head _)) (by assumption) ⟨by assumption, .inr (by assumption), by omega⟩
  · unfold Stop
    rename Fr _ _ _ _ => F4
    rename News _ _ _ _ => N4
    exact done_bool F4 N4 (.head _) (.tail _ (.head _)) (by assumption) ⟨by assumption, .inl (by assumption), by omega⟩
set_option maxHeartbeats 8000000 in
theorem c_middle_of {l l2 l3 : Addr} {vs vs2 vs3 : List Value} {ns ns2 ns3 : List Int} {bl : Bool} {wv : Int} {tw : Tok} (G : Gd w p loose mean mg mb b) (hb : b.StaysIn s.heap) (hl : s.heap.IsList l vs.toArray) (hl2 : s.heap.IsList l2 vs2.toArray) (hl3 : s.heap.IsList l3 vs3.toArray)
    (hi : IntsAre vs ns) (hi2 : IntsAre vs2 ns2) (hi3 : IntsAre vs3 ns3) (hn : ns.length ≤ 90) (hn2 : ns2.length ≤ 90) (hn3 : ns3.length ≤ 90) (hw0 : 1 ≤ wv) (hw1 : wv ≤ 9) (hr : Row (2 ^ wv.toNat) ns) (hr2 : Row (2 ^ wv.toNat) ns2) (hr3 : Row (2 ^ wv.toNat) ns3)
    (hge : bl = false → val (2 ^ wv.toNat) ns3 ≤ val (2 ^ wv.toNat) ns + val (2 ^ wv.toNat) ns2) :
    codeAny (model PP w) (Ar 975 4000) (.call (.ref 109) ⟨[.ref l, .ref l2, .bool bl, .ref l3, .int wv tw], []⟩)
      (Done [] (LOut s.heap fun ms => Row (2 ^ wv.toNat) ms ∧ val (2 ^ wv.toNat) ms = (if bl = true then val (2 ^ wv.toNat) ns + val (2 ^ wv.toNat) ns2 + val (2 ^ wv.toNat) ns3 else val (2 ^ wv.toNat) ns + val (2 ^ wv.toNat) ns2 - val (2 ^ wv.toNat) ns3) ∧ ms.length ≤ max (max ns.length ns2.length + 1) ns3.length + 1) s) s := by
  refine' enter0 (binds := [(Str.ofString "low", .ref l), (Str.ofString "high", .ref l2), (Str.ofString "is_below", .bool bl), (Str.ofString "apart", .ref l3), (Str.ofString "w", .int wv tw)]) G hb ?ho ?hcd ?hr ?hb ?hl ?_ ?c1 ?c2 ?c3 ?c4
  case ho => k_is
  case hcd => k_is
  case hr => first | decide | assumption
  case hb => exact BindsTo.of_eq rfl
  case hl => exact locs rfl
  case c1 => rfl
  case c2 => rfl
  case c3 => rfl
  case c4 => decide
  intro L h₁ F' N' X' T'
  dsimp only [bindsM, List.reverse, List.reverseAux] at F'
  try dsimp only
  k_fold
  have hm : ns.length ≤ 100 := Nat.le_trans hn (by decide)
  have hm2 : ns2.length ≤ 100 := Nat.le_trans hn2 (by decide)
  have hm3 : ns3.length ≤ 100 := Nat.le_trans hn3 (by decide)
  cases bl with
  | true =>
    clear hge
    k_steps
    repeat' ((first | (refine goOn ?_; k_here; (with_reducible show wpAny _ _ (PySem.call (Value.ref 60) _) _ _ _); (with_reducible rename Fr _ _ _ _ => kFq); (with_reducible rename News _ _ _ _ => kNq); k_dflt (refine' useList (c_add ⟨?zqgx, ?zqgt⟩ kFq.keep ?zqhl ?zqhl2 ?zqhi ?zqhi2 ?zqhn ?zqhn2 ?zqw0 ?zqw1 ?zqr1 ?zqr2) kFq kNq rfl (by first | exact Nat.le_of_ble_eq_true rfl | (dsimp only [Ar]; omega)) (by first | exact Nat.le_of_ble_eq_true rfl | (dsimp only [Ar]; omega)) ?_; (case zqgx => assumption); (case zqgt => assumption); (case zqhl => first | exact Fr.lst kFq (by assumption) | exact News.isList kNq (by k_mem)); (case zqhl2 => first | exact Fr.lst kFq (by assumption) | exact News.isList kNq (by k_mem)); (case zqhi => assumption); (case zqhi2 => assumption); (case zqw0 => assumption); (case zqw1 => assumption); (case zqr1 => first | assumption | exact Row.drop (by assumption) _); (case zqr2 => assumption); (case zqhn => first | with_reducible assumption | exact Nat.le_trans (by with_reducible assumption) (Nat.le_of_ble_eq_true rfl) | omega | (simp only [List.length_drop]; omega)); (case zqhn2 => first | with_reducible assumption | exact Nat.le_trans (by with_reducible assumption) (Nat.le_of_ble_eq_true rfl) | omega)); intro _ _ _ _ _ _ _ _ _ _ zhP; have _ := zhP.1; have _ := zhP.2.1; have _ := zhP.2.2; clear zhP; clear kFq kNq) | (refine goOn ?_; k_here; (with_reducible show wpAny _ _ (PySem.call (Value.ref 67) _) _ _ _); (with_reducible rename Fr _ _ _ _ => kFq); (with_reducible rename News _ _ _ _ => kNq); k_dflt (refine' useList (c_sub ⟨?zqgx, ?zqgt⟩ kFq.keep ?zqhl ?zqhl2 ?zqhi ?zqhi2 ?zqhn ?zqhn2 ?zqw0 ?zqw1 ?zqr1 ?zqr2 ?zqge) kFq kNq rfl (by first | exact Nat.le_of_ble_eq_true rfl | (dsimp only [Ar]; omega)) (by first | exact Nat.le_of_ble_eq_true rfl | (dsimp only [Ar]; omega)) ?_; (case zqgx => assumption); (case zqgt => assumption); (case zqhl => first | exact Fr.lst kFq (by assumption) | exact News.isList kNq (by k_mem)); (case zqhl2 => first | exact Fr.lst kFq (by assumption) | exact News.isList kNq (by k_mem)); (case zqhi => assumption); (case zqhi2 => assumption); (case zqw0 => assumption); (case zqw1 => assumption); (case zqr1 => assumption); (case zqr2 => assumption); (case zqhn => first | with_reducible assumption | exact Nat.le_trans (by with_reducible assumption) (Nat.le_of_ble_eq_true rfl) | omega); (case zqhn2 => first | with_reducible assumption | exact Nat.le_trans (by with_reducible assumption) (Nat.le_of_ble_eq_true rfl) | omega); (case zqge => first | assumption | omega)); intro _ _ _ _ _ _ _ _ _ _ zhP; have _ := zhP.1; have _ := zhP.2.1; have _ := zhP.2.2; clear zhP; clear kFq kNq) | (refine goOn ?_; k_dflt (refine' kmk_slice_ints ?zqF ?zqN ?zql ?zqp ?zqq ?zqi ?zqm rfl ?_ ?zqs ?zqt ?zqz; (case zqF => k_asm); (case zqN => k_asm); (case zql => first | exact Fr.lst (by assumption) (by assumption) | exact News.isList (by assumption) (by k_mem)); (case zqp => kmk_part); (case zqq => kmk_part); (case zqi => assumption); (case zqm => first | exact kmk_all (by assumption) | exact kmk_from (by assumption) (by first | assumption | omega) | exact kmk_upto (by assumption) (by first | assumption | omega) | exact kmk_run (by assumption) (by first | assumption | omega) (by first | assumption | omega)); (case zqs => with_unfolding_all rfl); (case zqt => kmk_pure); (case zqz => exact sz_ok (by assumption) (by omega))); intro _ _ _ _ _ zl1 _ zhC zhL; (try k_lt zl1); (try k_sweep); clear zhC zhL) | (refine goOn ?_; with_reducible rename Fr _ _ _ _ => kFq; with_reducible rename News _ _ _ _ => kNq; k_dflt (refine' appD kFq kNq ?zqo ?zqz ?_; (case zqo => first | exact offOne (by assumption) | exact offNil | assumption); (case zqz => first | assumption | omega)); intro _ _ _; clear kFq kNq) | fail); (try k_steps))
    unfold Stop
    rename Fr _ _ _ _ => F4
    rename News _ _ _ _ => N4
    exact done_list F4 N4 (.head _) (by assumption) ⟨by assumption, by rw [if_pos rfl]; omega, mid_len (by assumption) (by assumption)⟩
  | false =>
    replace hge := hge rfl
    k_steps
    repeat' ((first | (refine goOn ?_; k_here; (with_reducible show wpAny _ _ (PySem.call (Value.ref 60) _) _ _ _); (with_reducible rename Fr _ _ _ _ => kFq); (with_reducible rename News _ _ _ _ => kNq); k_dflt (refine' useList (c_add ⟨?zqgx, ?zqgt⟩ kFq.keep ?zqhl ?zqhl2 ?zqhi ?zqhi2 ?zqhn ?zqhn2 ?zqw0 ?zqw1 ?zqr1 ?zqr2) kFq kNq rfl (by first | exact Nat.le_of_ble_eq_true rfl | (dsimp only [Ar]; omega)) (by first | exact Nat.le_of_ble_eq_true rfl | (dsimp only [Ar]; omega)) ?_; (case zqgx => assumption); (case zqgt => assumption); (case zqhl => first | exact Fr.lst kFq (by assumption) | exact News.isList kNq (by k_mem)); (case zqhl2 => first | exact Fr.lst kFq (by assumption) | exact News.isList kNq (by k_mem)); (case zqhi => assumption); (case zqhi2 => assumption); (case zqw0 => assumption); (case zqw1 => assumption); (case zqr1 => first | assumption | exact Row.drop (by assumption) _); (case zqr2 => assumption); (case zqhn => first | with_reducible assumption | exact Nat.le_trans (by with_reducible assumption) (Nat.le_of_ble_eq_true rfl) | omega | (simp only [List.length_drop]; omega)); (case zqhn2 => first | with_reducible assumption | exact Nat.le_trans (by with_reducible assumption) (Nat.le_of_ble_eq_true rfl) | omega)); intro _ _ _ _ _ _ _ _ _ _ zhP; have _ := zhP.1; have _ := zhP.2.1; have _ := zhP.2.2; clear zhP; clear kFq kNq) | (refine goOn ?_; k_here; (with_reducible show wpAny _ _ (PySem.call (Value.ref 67) _) _ _ _); (with_reducible rename Fr _ _ _ _ => kFq); (with_reducible rename News _ _ _ _ => kNq); k_dflt (refine' useList (c_sub ⟨?zqgx, ?zqgt⟩ kFq.keep ?zqhl ?zqhl2 ?zqhi ?zqhi2 ?zqhn ?zqhn2 ?zqw0 ?zqw1 ?zqr1 ?zqr2 ?zqge) kFq kNq rfl (by first | exact Nat.le_of_ble_eq_true rfl | (dsimp only [Ar]; omega)) (by first | exact Nat.le_of_ble_eq_true rfl | (dsimp only [Ar]; omega)) ?_; (case zqgx => assumption); (case zqgt => assumption); (case zqhl => first | exact Fr.lst kFq (by assumption) | exact News.isList kNq (by k_mem)); (case zqhl2 => first | exact Fr.lst kFq (by assumption) | exact News.isList kNq (by k_mem)); (case zqhi => assumption); (case zqhi2 => assumption); (case zqw0 => assumption); (case zqw1 => assumption); (case zqr1 => assumption); (case zqr2 => assumption); (case zqhn => first | with_reducible assumption | exact Nat.le_trans (by with_reducible assumption) (Nat.le_of_ble_eq_true rfl) | omega); (case zqhn2 => first | with_reducible assumption | exact Nat.le_trans (by with_reducible assumption) (Nat.le_of_ble_eq_true rfl) | omega); (case zqge => first | assumption | omega)); intro _ _ _ _ _ _ _ _ _ _ zhP; have _ := zhP.1; have _ := zhP.2.1; have _ := zhP.2.2; clear zhP; clear kFq kNq) | (refine goOn ?_; k_dflt (refine' kmk_slice_ints ?zqF ?zqN ?zql ?zqp ?zqq ?zqi ?zqm rfl ?_ ?zqs ?zqt ?zqz; (case zqF => k_asm); (case zqN => k_asm); (case zql => first | exact Fr.lst (by assumption) (by assumption) | exact News.isList (by assumption) (by k_mem)); (case zqp => kmk_part); (case zqq => kmk_part); (case zqi => assumption); (case zqm => first | exact kmk_all (by assumption) | exact kmk_from (by assumption) (by first | assumption | omega) | exact kmk_upto (by assumption) (by first | assumption | omega) | exact kmk_run (by assumption) (by first | assumption | omega) (by first | assumption | omega)); (case zqs => with_unfolding_all rfl); (case zqt => kmk_pure); (case zqz => exact sz_ok (by assumption) (by omega))); intro _ _ _ _ _ zl1 _ zhC zhL; (try k_lt zl1); (try k_sweep); clear zhC zhL) | (refine goOn ?_; with_reducible rename Fr _ _ _ _ => kFq; with_reducible rename News _ _ _ _ => kNq; k_dflt (refine' appD kFq kNq ?zqo ?zqz ?_; (case zqo => first | exact offOne (by assumption) | exact offNil | assumption); (case zqz => first | assumption | omega)); intro _ _ _; clear kFq kNq) | fail); (try k_steps))
    unfold Stop
    rename Fr _ _ _ _ => F4
    rename News _ _ _ _ => N4
    exact done_list F4 N4 (.head _) (by assumption) ⟨by assumption, by rw [if_neg (by decide)]; omega, mid_len2 (by assumption) (by assumption)⟩
set_option maxHeartbeats 8000000 in
theorem c_put_together {l l2 l3 : Addr} {vs vs2 vs3 : List Value} {ns ns2 ns3 : List Int} {sp wv : Int} {ts tw : Tok} (G : Gd w p loose mean mg mb b) (hb : b.StaysIn s.heap) (hl : s.heap.IsList l vs.toArray) (hl2 : s.heap.IsList l2 vs2.toArray) (hl3 : s.heap.IsList l3 vs3.toArray)
    (hi : IntsAre vs ns) (hi2 : IntsAre vs2 ns2) (hi3 : IntsAre vs3 ns3) (hn : ns.length ≤ 40) (hn2 : ns2.length ≤ 40) (hn3 : ns3.length ≤ 40) (hs0 : 0 ≤ sp) (hs1 : sp ≤ 40) (hw0 : 1 ≤ wv) (hw1 : wv ≤ 9) (hr : Row (2 ^ wv.toNat) ns) (hr2 : Row (2 ^ wv.toNat) ns2) (hr3 : Row (2 ^ wv.toNat) ns3) :
    codeAny (model PP w) (Ar 975 4000) (.call (.ref 102) ⟨[.ref l, .ref l2, .ref l3, .int sp ts, .int wv tw], []⟩)
      (Done [] (LOut s.heap fun ms => Row (2 ^ wv.toNat) ms ∧ val (2 ^ wv.toNat) ms = val (2 ^ wv.toNat) ns + (2 ^ wv.toNat) ^ sp.toNat * val (2 ^ wv.toNat) ns2 + (2 ^ wv.toNat) ^ (2 * sp).toNat * val (2 ^ wv.toNat) ns3 ∧ ms.length ≤ 150) s) s := by
  refine' enter0 (binds := [(Str.ofString "low", .ref l), (Str.ofString "middle", .ref l2), (Str.ofString "high", .ref l3), (Str.ofString "spot", .int sp ts), (Str.ofString "w", .int wv tw)]) G hb ?ho ?hcd ?hr ?hb ?hl ?_ ?c1 ?c2 ?c3 ?c4
  case ho => k_is
  case hcd => k_is
  case hr => first | decide | assumption
  case hb => exact BindsTo.of_eq rfl
  case hl => exact locs rfl
  case c1 => rfl
  case c2 => rfl
  case c3 => rfl
  case c4 => decide
  intro L h₁ F' N' X' T'
  dsimp only [bindsM, List.reverse, List.reverseAux] at F'
  try dsimp only
  k_fold
  have hm : ns.length ≤ 100 := Nat.le_trans hn (by decide)
  have hm2 : ns2.length ≤ 100 := Nat.le_trans hn2 (by decide)
  have hm3 : ns3.length ≤ 100 := Nat.le_trans hn3 (by decide)
  k_steps
  repeat' ((first | (refine goOn ?_; k_here; (with_reducible show wpAny _ _ (PySem.call (Value.ref 74) _) _ _ _); (with_reducible rename Fr _ _ _ _ => kFq); (with_reducible rename News _ _ _ _ => kNq); k_dflt (refine' useList (c_add_at ⟨?zqgx, ?zqgt⟩ kFq.keep ?zqhl ?zqhl2 ?zqhi ?zqhi2 ?zqhn ?zqhn2 ?zqs0 ?zqs1 ?zqw0 ?zqw1 ?zqr1 ?zqr2) kFq kNq rfl (by first | exact Nat.le_of_ble_eq_true rfl | (dsimp only [Ar]; omega)) (by first | exact Nat.le_of_ble_eq_true rfl | (dsimp only [Ar]; omega)) ?_; (case zqgx => assumption); (case zqgt => assumption); (case zqhl => first | exact Fr.lst kFq (by assumption) | exact News.isList kNq (by k_mem)); (case zqhl2 => first | exact Fr.lst kFq (by assumption) | exact News.isList kNq (by k_mem)); (case zqhi => assumption); (case zqhi2 => assumption); (case zqs0 => first | assumption | omega); (case zqs1 => first | assumption | omega); (case zqw0 => assumption); (case zqw1 => assumption); (case zqr1 => assumption); (case zqr2 => assumption); (case zqhn => first | with_reducible assumption | exact Nat.le_trans (by with_reducible assumption) (Nat.le_of_ble_eq_true rfl) | omega | (simp only [List.length_drop]; omega)); (case zqhn2 => first | with_reducible assumption | exact Nat.le_trans (by with_reducible assumption) (Nat.le_of_ble_eq_true rfl) | omega)); intro _ _ _ _ _ _ _ _ _ _ zhP; have _ := zhP.1; have _ := zhP.2.1; have _ := zhP.2.2; clear zhP; clear kFq kNq) | (refine goOn ?_; k_dflt (refine' kmk_slice_ints ?zqF ?zqN ?zql ?zqp ?zqq ?zqi ?zqm rfl ?_ ?zqs ?zqt ?zqz; (case zqF => k_asm); (case zqN => k_asm); (case zql => first | exact Fr.lst (by assumption) (by assumption) | exact News.isList (by assumption) (by k_mem)); (case zqp => kmk_part); (case zqq => kmk_part); (case zqi => assumption); (case zqm => first | exact kmk_all (by assumption) | exact kmk_from (by assumption) (by first | assumption | omega) | exact kmk_upto (by assumption) (by first | assumption | omega) | exact kmk_run (by assumption) (by first | assumption | omega) (by first | assumption | omega)); (case zqs => with_unfolding_all rfl); (case zqt => kmk_pure); (case zqz => exact sz_ok (by assumption) (by omega))); intro _ _ _ _ _ zl1 _ zhC zhL; (try k_lt zl1); (try k_sweep); clear zhC zhL) | (refine goOn ?_; with_reducible rename Fr _ _ _ _ => kFq; with_reducible rename News _ _ _ _ => kNq; k_dflt (refine' appD kFq kNq ?zqo ?zqz ?_; (case zqo => first | exact offOne (by assumption) | exact offNil | assumption); (case zqz => first | assumption | omega)); intro _ _ _; clear kFq kNq) | fail); (try k_steps))
  unfold Stop
  rename Fr _ _ _ _ => F4
  rename News _ _ _ _ => N4
  exact done_list F4 N4 (.head _) (by assumption) ⟨by assumption, by omega, put_len (by assumption) (by assumption) hn hn2 hn3 (Int.toNat_le.mpr hs1) (by omega)⟩
theorem half_lt {wv : Int} (h : 1 ≤ wv) : 0 ≤ (2 : Int) ^ (wv - 1).toNat ∧ (2 : Int) ^ (wv - 1).toNat < 2 ^ wv.toNat := by
  obtain ⟨n, rfl⟩ : ∃ n : Nat, wv = (n : Int) + 1 := ⟨(wv - 1).toNat, by omega⟩
  rw [show ((n : Int) + 1 - 1).toNat = n by omega, show ((n : Int) + 1).toNat = n + 1 by omega, Int.pow_succ]
  have : (0 : Int) < 2 ^ n := Int.pow_pos (by omega)
  omega
theorem limb_ok {B r q : Int} (hB : 1 < B) (h0 : 0 ≤ r) (h1 : r < B) (hq0 : 0 ≤ q) (hq : q < B) (i : Nat) : 0 ≤ [0, B - 1, 1, r, B - 1, q].getD i 0 ∧ [0, B - 1, 1, r, B - 1, q].getD i 0 < B := by
  match i with
  | 0 | 1 | 2 | 3 | 4 | 5 => simp; try omega
  | n + 6 => simp; omega
theorem number_step {B f l : Int} {n : Nat} (hB : 1 ≤ B) (h0 : 0 ≤ f) (h1 : f < B ^ n) (l0 : 0 ≤ l) (l1 : l < B) : 0 ≤ f * B + l ∧ f * B + l < B ^ (n + 1) := by
  have a := Int.mul_nonneg h0 (show 0 ≤ B by omega)
  have c := Int.mul_le_mul_of_nonneg_right (show f + 1 ≤ B ^ n by omega) (show 0 ≤ B by omega)
  rw [Int.pow_succ]
  rw [Int.add_mul] at c
  omega
theorem int_pow_le {B : Int} (hB : 1 ≤ B) {n m : Nat} (h : n ≤ m) : B ^ n ≤ B ^ m := by
  obtain ⟨k, rfl⟩ := Nat.exists_eq_add_of_le h
  rw [Int.pow_add]
  have a : 1 ≤ B ^ k := by have : (0 : Int) < B ^ k := Int.pow_pos (by omega); omega
  have c : (0 : Int) < B ^ n := Int.pow_pos (by omega)
  have := Int.mul_le_mul_of_nonneg_left a (Int.le_of_lt c)
  omega
set_option maxHeartbeats 8000000 in
theorem c_law_number {P J : Addr} {o : Obj} {vs : List Value} {ns : List Int} {wv mv : Int} {tw tm : Tok} (G : Gd w p loose mean mg mb b) (hb : b.StaysIn s.heap) (hP : s.heap.get? P = some o) (hO : PoolO J o) (hJP : J ≠ P) (hJ : s.heap.IsList J (List.toArray vs)) (hi : IntsAre vs ns) (hn : ns.length ≤ 63)
    (hPb : b.get? P = none) (hw0 : 1 ≤ wv) (hw1 : wv ≤ 9) (hm0 : 0 ≤ mv) (hm1 : mv ≤ 9) :
    codeAny (model PP w) (Ar 980 5000) (.call (.ref 154) ⟨[.ref P, .int wv tw, .int mv tm], []⟩)
      (Done [P] (DrawOut P J ((2 ^ wv.toNat) ^ mv.toNat)) s) s := by
  refine' enter (binds := [(Str.ofString "pool", .ref P), (Str.ofString "w", .int wv tw), (Str.ofString "most", .int mv tm)]) G hb [(P, o)] ?hh ?ho ?hcd ?hr ?hb ?hl ?_ ?c1 ?c2 ?c3 ?c4
  case ho => k_is
  case hcd => k_is
  case hr => first | decide | assumption
  case hb => exact BindsTo.of_eq rfl
  case hl => exact locs rfl
  case c1 => rfl
  case c2 => rfl
  case c3 => rfl
  case c4 => decide
  case hh => exact fun q hq => by rw [List.mem_singleton.mp hq]; exact ⟨hP, hPb⟩
  intro g L h₁ hg F' N' X' T'
  rw [bindsM_eq] at F'
  dsimp only [bindsM, List.reverse, List.reverseAux] at F'
  try dsimp only
  k_fold
  have hJg : g.IsList J (List.toArray vs) := by
    obtain ⟨o, ho, r⟩ := hJ
    refine ⟨o, ?_, r⟩
    rw [hg]
    exact hideAll_get _ ho (fun z => hJP (by simpa using z))
  have hkk : ∀ {h' : Heap} {m' : Str → Option Value}, Fr g L h' m' → Kept [P] s.heap h' := fun F c o hc q => F.keep c o (by rw [hg]; exact hideAll_get _ q (by simpa using hc))
  have hB1 := base_gt hw0
  have hB2 := base_le hw1
  have hB0 : (1 : Int) ≤ 2 ^ wv.toNat := by omega
  have hm : (1 : Int) ≤ mv + 1 := by omega
  k_steps
  repeat' ((first | (refine goOn ?_; k_here; (with_reducible show wpAny _ _ (PySem.call (Value.ref 130) _) _ _ _); (with_reducible rename Fr _ _ _ _ => kFq); (with_reducible rename News _ _ _ _ => kNq); k_dflt (refine' useDraw (c_law_draw ⟨?zqgx, ?zqgt⟩ kFq.keep ?zqhP ?zqhO ?zqhJP ?zqhJ ?zqhi ?zqhn ?zqhPb ?zqhm) kFq kNq ?zqU rfl (by first | exact Nat.le_of_ble_eq_true rfl | (dsimp only [Ar]; omega)) (by first | exact Nat.le_of_ble_eq_true rfl | (dsimp only [Ar]; omega)) ?_; (case zqgx => with_reducible assumption); (case zqgt => with_reducible assumption); (case zqhP => exact (kNq (_, _) (by k_mem)).1); (case zqhPb => exact (kNq (_, _) (by k_mem)).2.2); (case zqhO => with_reducible assumption); (case zqhJP => with_reducible assumption); (case zqhJ => first | exact Fr.lst kFq (by assumption) | exact News.isList kNq (by k_mem)); (case zqhi => with_reducible assumption); (case zqhn => first | with_reducible assumption | exact Nat.le_trans (by with_reducible assumption) (Nat.le_of_ble_eq_true rfl) | omega); (case zqhm => first | with_reducible assumption | omega); (case zqU => k_updF)); intro _ _ _ _ _ _ kNn; (try dsimp only [List.append] at kNn); revert kNn; intro _ _ _ _; clear kFq kNq) | (refine goOn ?_; k_dflt (refine' kmk_slice_ints ?zqF ?zqN ?zql ?zqp ?zqq ?zqi ?zqm rfl ?_ ?zqs ?zqt ?zqz; (case zqF => k_asm); (case zqN => k_asm); (case zql => first | exact Fr.lst (by assumption) (by assumption) | exact News.isList (by assumption) (by k_mem)); (case zqp => kmk_part); (case zqq => kmk_part); (case zqi => assumption); (case zqm => first | exact kmk_all (by assumption) | exact kmk_from (by assumption) (by first | assumption | omega) | exact kmk_upto (by assumption) (by first | assumption | omega) | exact kmk_run (by assumption) (by first | assumption | omega) (by first | assumption | omega)); (case zqs => with_unfolding_all rfl); (case zqt => kmk_pure); (case zqz => exact sz_ok (by assumption) (by omega))); intro _ _ _ _ _ zl1 _ zhC zhL; (try k_lt zl1); (try k_sweep); clear zhC zhL) | (refine goOn ?_; with_reducible rename Fr _ _ _ _ => kFq; with_reducible rename News _ _ _ _ => kNq; k_dflt (refine' appD kFq kNq ?zqo ?zqz ?_; (case zqo => first | exact offOne (by assumption) | exact offNil | assumption); (case zqz => first | assumption | omega)); intro _ _ _; clear kFq kNq) | fail); (try k_steps))
  unfold Stop
  rename Fr _ _ _ _ => F'
  refine For_invVF F' (by rfl) (by rfl) ?_
  k_steps
  repeat' ((first | (refine goOn ?_; k_here; (with_reducible show wpAny _ _ (PySem.call (Value.ref 130) _) _ _ _); (with_reducible rename Fr _ _ _ _ => kFq); (with_reducible rename News _ _ _ _ => kNq); k_dflt (refine' useDraw (c_law_draw ⟨?zqgx, ?zqgt⟩ kFq.keep ?zqhP ?zqhO ?zqhJP ?zqhJ ?zqhi ?zqhn ?zqhPb ?zqhm) kFq kNq ?zqU rfl (by first | exact Nat.le_of_ble_eq_true rfl | (dsimp only [Ar]; omega)) (by first | exact Nat.le_of_ble_eq_true rfl | (dsimp only [Ar]; omega)) ?_; (case zqgx => with_reducible assumption); (case zqgt => with_reducible assumption); (case zqhP => exact (kNq (_, _) (by k_mem)).1); (case zqhPb => exact (kNq (_, _) (by k_mem)).2.2); (case zqhO => with_reducible assumption); (case zqhJP => with_reducible assumption); (case zqhJ => first | exact Fr.lst kFq (by assumption) | exact News.isList kNq (by k_mem)); (case zqhi => with_reducible assumption); (case zqhn => first | with_reducible assumption | exact Nat.le_trans (by with_reducible assumption) (Nat.le_of_ble_eq_true rfl) | omega); (case zqhm => first | with_reducible assumption | omega); (case zqU => k_updF)); intro _ _ _ _ _ _ kNn; (try dsimp only [List.append] at kNn); revert kNn; intro _ _ _ _; clear kFq kNq) | (refine goOn ?_; k_dflt (refine' kmk_slice_ints ?zqF ?zqN ?zql ?zqp ?zqq ?zqi ?zqm rfl ?_ ?zqs ?zqt ?zqz; (case zqF => k_asm); (case zqN => k_asm); (case zql => first | exact Fr.lst (by assumption) (by assumption) | exact News.isList (by assumption) (by k_mem)); (case zqp => kmk_part); (case zqq => kmk_part); (case zqi => assumption); (case zqm => first | exact kmk_all (by assumption) | exact kmk_from (by assumption) (by first | assumption | omega) | exact kmk_upto (by assumption) (by first | assumption | omega) | exact kmk_run (by assumption) (by first | assumption | omega) (by first | assumption | omega)); (case zqs => with_unfolding_all rfl); (case zqt => kmk_pure); (case zqz => exact sz_ok (by assumption) (by omega))); intro _ _ _ _ _ zl1 _ zhC zhL; (try k_lt zl1); (try k_sweep); clear zhC zhL) | (refine goOn ?_; with_reducible rename Fr _ _ _ _ => kFq; with_reducible rename News _ _ _ _ => kNq; k_dflt (refine' appD kFq kNq ?zqo ?zqz ?_; (case zqo => first | exact offOne (by assumption) | exact offNil | assumption); (case zqz => first | assumption | omega)); intro _ _ _; clear kFq kNq) | fail); (try k_steps))
  unfold Stop
  dsimp only
  rename IsRange _ _ _ _ _ _ _ _ => R'
  rename Fr _ _ _ _ => F2
  rename News _ _ _ _ => N2
  rename PoolO _ _ => hO1
  refine' kst_range (σ := Int × Tok × Obj) (fun c => [(P, c.2.2)]) (fun c => [(Str.ofString "found", .int c.1 c.2.1)]) (fun c => PoolO J c.2.2) [Str.ofString "limb"]
    (fun pre c => 0 ≤ c.1 ∧ c.1 < (2 ^ wv.toNat) ^ pre.length) (0, _, _)
    rfl R' ?sm (rangeSize_nat _ _) F2 N2 hO1 ?kk ?pp ?_ ?_
  case sm => exact small_one (by omega) (by omega) (by omega) (by omega)
  case kk => intro q hq; rw [List.mem_singleton.mp hq]; rfl
  case pp => exact ⟨Int.le_refl 0, by simp⟩
  · clear F2 N2 R' hO1
    rintro ⟨fv, ft, o1⟩ pre k t u h' tk' own hk hlt hoff hf hp F2 N2
    try dsimp only at *
    k_fold
    k_steps
    repeat' ((first | (refine goOn ?_; k_here; (with_reducible show wpAny _ _ (PySem.call (Value.ref 130) _) _ _ _); (with_reducible rename Fr _ _ _ _ => kFq); (with_reducible rename News _ _ _ _ => kNq); k_dflt (refine' useDraw (c_law_draw ⟨?zqgx, ?zqgt⟩ kFq.keep ?zqhP ?zqhO ?zqhJP ?zqhJ ?zqhi ?zqhn ?zqhPb ?zqhm) kFq kNq ?zqU rfl (by first | exact Nat.le_of_ble_eq_true rfl | (dsimp only [Ar]; omega)) (by first | exact Nat.le_of_ble_eq_true rfl | (dsimp only [Ar]; omega)) ?_; (case zqgx => with_reducible assumption); (case zqgt => with_reducible assumption); (case zqhP => exact (kNq (_, _) (by k_mem)).1); (case zqhPb => exact (kNq (_, _) (by k_mem)).2.2); (case zqhO => with_reducible assumption); (case zqhJP => with_reducible assumption); (case zqhJ => first | exact Fr.lst kFq (by assumption) | exact News.isList kNq (by k_mem)); (case zqhi => with_reducible assumption); (case zqhn => first | with_reducible assumption | exact Nat.le_trans (by with_reducible assumption) (Nat.le_of_ble_eq_true rfl) | omega); (case zqhm => first | with_reducible assumption | omega); (case zqU => k_updF)); intro _ _ _ _ _ _ kNn; (try dsimp only [List.append] at kNn); revert kNn; intro _ _ _ _; clear kFq kNq) | (refine goOn ?_; k_dflt (refine' kmk_slice_ints ?zqF ?zqN ?zql ?zqp ?zqq ?zqi ?zqm rfl ?_ ?zqs ?zqt ?zqz; (case zqF => k_asm); (case zqN => k_asm); (case zql => first | exact Fr.lst (by assumption) (by assumption) | exact News.isList (by assumption) (by k_mem)); (case zqp => kmk_part); (case zqq => kmk_part); (case zqi => assumption); (case zqm => first | exact kmk_all (by assumption) | exact kmk_from (by assumption) (by first | assumption | omega) | exact kmk_upto (by assumption) (by first | assumption | omega) | exact kmk_run (by assumption) (by first | assumption | omega) (by first | assumption | omega)); (case zqs => with_unfolding_all rfl); (case zqt => kmk_pure); (case zqz => exact sz_ok (by assumption) (by omega))); intro _ _ _ _ _ zl1 _ zhC zhL; (try k_lt zl1); (try k_sweep); clear zhC zhL) | (refine goOn ?_; with_reducible rename Fr _ _ _ _ => kFq; with_reducible rename News _ _ _ _ => kNq; k_dflt (refine' appD kFq kNq ?zqo ?zqz ?_; (case zqo => first | exact offOne (by assumption) | exact offNil | assumption); (case zqz => first | assumption | omega)); intro _ _ _; clear kFq kNq) | fail); (try k_steps))
    unfold Stop
    rename Fr _ _ _ _ => F5
    rename News _ _ _ _ => N5
    rename _ < 6 => hr6
    rename PoolO _ _ => hO5
    rename _ < 2 ^ wv.toNat => hrB
    have hq := half_lt hw0
    have hl := limb_ok hB1 (by assumption) hrB hq.1 hq.2
    refine' kst_end (_, _, _) F5 N5 ?k1 ?k2 ?k3 hO5 ?k4 ?k5 ?k6
    case k3 => rfl
    case k1 => intro q hq; rw [List.mem_singleton.mp hq]; exact .tail _ (.head _)
    case k2 => intro q hq; exact .tail _ (.tail _ hq)
    case k4 => intro q hq; rw [List.mem_singleton.mp hq]; rfl
    case k5 =>
      intro z h1 h2 h3
      have h2' := h2 _ (.head _)
      have h3' : z ≠ Str.ofString "limb" := by intro e; rw [e] at h3; revert h3; decide +kernel
      simp [kstB, h1, h2', h3']
    case k6 =>
      rw [List.length_append, List.length_singleton]
      exact number_step hB0 hp.1 hp.2 (hl _).1 (hl _).2
  · rintro ⟨fv, ft, o1⟩ u h' tk' hf hp F2 N2
    dsimp only at F2 N2 hf hp
    dsimp only
    k_steps
    repeat' ((first | (refine goOn ?_; k_here; (with_reducible show wpAny _ _ (PySem.call (Value.ref 130) _) _ _ _); (with_reducible rename Fr _ _ _ _ => kFq); (with_reducible rename News _ _ _ _ => kNq); k_dflt (refine' useDraw (c_law_draw ⟨?zqgx, ?zqgt⟩ kFq.keep ?zqhP ?zqhO ?zqhJP ?zqhJ ?zqhi ?zqhn ?zqhPb ?zqhm) kFq kNq ?zqU rfl (by first | exact Nat.le_of_ble_eq_true rfl | (dsimp only [Ar]; omega)) (by first | exact Nat.le_of_ble_eq_true rfl | (dsimp only [Ar]; omega)) ?_; (case zqgx => with_reducible assumption); (case zqgt => with_reducible assumption); (case zqhP => exact (kNq (_, _) (by k_mem)).1); (case zqhPb => exact (kNq (_, _) (by k_mem)).2.2); (case zqhO => with_reducible assumption); (case zqhJP => with_reducible assumption); (case zqhJ => first | exact Fr.lst kFq (by assumption) | exact News.isList kNq (by k_mem)); (case zqhi => with_reducible assumption); (case zqhn => first | with_reducible assumption | exact Nat.le_trans (by with_reducible assumption) (Nat.le_of_ble_eq_true rfl) | omega); (case zqhm => first | with_reducible assumption | omega); (case zqU => k_updF)); intro _ _ _ _ _ _ kNn; (try dsimp only [List.append] at kNn); revert kNn; intro _ _ _ _; clear kFq kNq) | (refine goOn ?_; k_dflt (refine' kmk_slice_ints ?zqF ?zqN ?zql ?zqp ?zqq ?zqi ?zqm rfl ?_ ?zqs ?zqt ?zqz; (case zqF => k_asm); (case zqN => k_asm); (case zql => first | exact Fr.lst (by assumption) (by assumption) | exact News.isList (by assumption) (by k_mem)); (case zqp => kmk_part); (case zqq => kmk_part); (case zqi => assumption); (case zqm => first | exact kmk_all (by assumption) | exact kmk_from (by assumption) (by first | assumption | omega) | exact kmk_upto (by assumption) (by first | assumption | omega) | exact kmk_run (by assumption) (by first | assumption | omega) (by first | assumption | omega)); (case zqs => with_unfolding_all rfl); (case zqt => kmk_pure); (case zqz => exact sz_ok (by assumption) (by omega))); intro _ _ _ _ _ zl1 _ zhC zhL; (try k_lt zl1); (try k_sweep); clear zhC zhL) | (refine goOn ?_; with_reducible rename Fr _ _ _ _ => kFq; with_reducible rename News _ _ _ _ => kNq; k_dflt (refine' appD kFq kNq ?zqo ?zqz ?_; (case zqo => first | exact offOne (by assumption) | exact offNil | assumption); (case zqz => first | assumption | omega)); intro _ _ _; clear kFq kNq) | fail); (try k_steps))
    unfold Stop
    rename Fr _ _ _ _ => F5
    rename News _ _ _ _ => N5
    rename _ < mv + 1 => hrm
    refine ⟨_, _, _, rfl, rfl, hkk F5, _, _, _, rfl, hp.1, ?_, (N5 _ (.head _)).1, hf⟩
    refine Int.lt_of_lt_of_le hp.2 (int_pow_le hB0 ?_)
    rw [rangeKs_length]
    omega
/-- the told list grows -/
inductive SqrOut (H : Heap) (T : Addr) (ts : List Int) (B nv lim : Int) (K : Nat) (v : Value) (h : Heap) : Prop
  | mk (hr0 : LOut H (fun ms => Row B ms ∧ val B ms = nv) v h) (os : List Value) (e : Nat) (more : List Int) (hq0 : h.get? T = some (listOf (List.toArray os) e)) (hq1 : IntsAre os (ts ++ more)) (hq2 : 1 ≤ more.length) (hq3 : more.length ≤ K) (hq4 : ∀ x ∈ more, 0 ≤ x ∧ x < lim) : SqrOut H T ts B nv lim K v h
def IsFn (o : Obj) : Prop := ∃ oc od fd sl, o = ⟨oc, od, .func fd, sl⟩
def KeepsAll (Ks : List (Addr × Obj)) (h : Heap) : Prop := ∀ q ∈ Ks, h.get? q.1 = some q.2
theorem KeepsAll.fr {Ks : List (Addr × Obj)} {h₀ h : Heap} {L : Addr} {m : Str → Option Value} (F : Fr h₀ L h m) (k : KeepsAll Ks h₀) : KeepsAll Ks h := fun q hq => F.keep _ _ (k q hq)
theorem stays_fr {h₀ h : Heap} {L : Addr} {m : Str → Option Value} (F : Fr h₀ L h m) (k : b.StaysIn h₀) : b.StaysIn h := fun _ _ e => F.keep _ _ (k _ _ e)
/-- what a call of the closure does -/
def SqrOk (w : World) (b : Heap) (Ks : List (Addr × Obj)) (f T : Addr) (wv : Int) : Prop :=
  ∀ (s : Shared) (l : Addr) (vs os : List Value) (ns ts : List Int) (e : Nat) (tw : Tok), b.StaysIn s.heap → KeepsAll Ks s.heap → s.heap.get? T = some (listOf (List.toArray os) e) → IntsAre os ts → ts.length ≤ 100 →
    s.heap.IsList l (List.toArray vs) → l ≠ T → IntsAre vs ns → ns.length ≤ 20 → Row (2 ^ wv.toNat) ns →
    codeAny (model PP w) (Ar 970 3500) (.call (.ref f) ⟨[.ref l, .int wv tw], []⟩) (Done [T] (SqrOut s.heap T ts (2 ^ wv.toNat) (val (2 ^ wv.toNat) ns ^ 2) (ns.length + 1) 1) s) s
/-- what a call of sqr_karatsuba does -/
def SK (w : World) (b : Heap) (Ks : List (Addr × Obj)) (f T : Addr) (wv lv : Int) (d u n K : Nat) : Prop :=
  ∀ (s : Shared) (l : Addr) (vs os : List Value) (ns ts : List Int) (e : Nat) (tw tl : Tok), b.StaysIn s.heap → KeepsAll Ks s.heap → s.heap.get? T = some (listOf (List.toArray os) e) → IntsAre os ts → ts.length + K ≤ 100 →
    s.heap.IsList l (List.toArray vs) → l ≠ T → IntsAre vs ns → ns.length ≤ n → Row (2 ^ wv.toNat) ns →
    codeAny (model PP w) (Ar d u) (.call (.ref 123) ⟨[.ref l, .int wv tw, .int lv tl, .ref f], []⟩) (Done [T] (SqrOut s.heap T ts (2 ^ wv.toNat) (val (2 ^ wv.toNat) ns ^ 2) (max 2 lv) K) s) s
theorem useSqr {A : Around} {d u : Nat} {f : Value} {vs : List Value} {Q E : Value → Shared → Prop} {h₀ : Heap} {L T : Addr} {m : Str → Option Value} {news : List (Addr × Obj)} {o : Obj} {g : Obj → List (Addr × Obj)} {ts : List Int} {B nv lim : Int} {K : Nat}
    (C : codeAny (model PP w) (Ar d u) (.call f ⟨vs, []⟩) (Done [T] (SqrOut s.heap T ts B nv lim K) s) s)
    (F : Fr h₀ L s.heap m) (N : News h₀ L s.heap news) (U : UpdF T o news g) (hA : A.handled = none) (hd : A.depth ≤ d) (hu : A.units ≤ u)
    (h : ∀ D us c ms os e more h' tk', Fr h₀ L h' m → News h₀ L h' ((D, listOf (List.toArray us) c) :: g (listOf (List.toArray os) e)) → AwayFrom D news → IntsAre us ms → Row B ms → val B ms = nv → IntsAre os (ts ++ more) → 1 ≤ more.length → more.length ≤ K →
      (∀ x ∈ more, 0 ≤ x ∧ x < lim) → Q (.ref D) { s with heap := h', toks := tk' }) : wpAny (model PP w) A (call f vs) Q E s := by
  refine use hA hd hu C fun v h' tk' k p => ?_
  obtain ⟨⟨D, us, c, ms, rfl, hD, hD', hi, hr, hv⟩, os, e, more, hT, hi', h1, h2, h3⟩ := p
  obtain ⟨pre, post, rfl, hg, a1, a2⟩ := U.split
  have z := N (T, o) (List.mem_append_right _ (.head _))
  refine h D us c ms os e more h' tk' (k.fr F fun c hc => by rw [List.mem_singleton.mp hc]; exact z.2) (fun q hq => ?_) (ne_new N hD) hi hr hv hi' h1 h2 h3
  rcases List.mem_cons.mp hq with rfl | hq
  · exact new_at F hD hD'
  rw [hg] at hq
  rcases List.mem_append.mp hq with hq | hq
  · have y := N q (List.mem_append_left _ hq)
    exact ⟨k _ _ (fun c => a1 q hq (List.mem_singleton.mp c)) y.1, y.2⟩
  · rcases List.mem_cons.mp hq with rfl | hq
    · exact ⟨hT, z.2⟩
    · have y := N q (List.mem_append_right _ (.tail _ hq))
      exact ⟨k _ _ (fun c => a2 q hq (List.mem_singleton.mp c)) y.1, y.2⟩
theorem callWith_own {A : Around} {pos : Pos} {first : List Value} {Q E : Value → Shared → Prop} {h₀ : Heap} {L f : Addr} {m : Str → Option Value} {env : Env} {e : PySem.Expr} {rest : List PySem.Expr} (F : Fr h₀ L s.heap m) (X : FnAt f h₀)
    (h : wpAny (model PP w) A (spliced (backTo pos (starEach (e :: rest) env))) (fun vs s₁ => FnAt f s₁.heap ∧ wpAny (model PP w) A (call (.ref f) (first ++ vs)) Q E s₁) E s)
    (he : starEach (e :: rest) env = (false, eval e env) :: starEach rest env := by rfl) (hplain : (backTo pos (starEach rest env)).any (·.1) = false := by rfl) :
    wpAny (model PP w) A (callWith pos (.ref f) first (backTo pos (starEach (e :: rest) env)) []) Q E s := by
  obtain ⟨oc, od, fd, sl, ho⟩ := X
  exact callWith_F ⟨oc, od, fd, sl, F.keep _ _ ho⟩ h he hplain
theorem fnAt_own {h₀ h : Heap} {L f : Addr} {m : Str → Option Value} (F : Fr h₀ L h m) (X : FnAt f h₀) : FnAt f h := by
  obtain ⟨oc, od, fd, sl, ho⟩ := X
  exact ⟨oc, od, fd, sl, F.keep _ _ ho⟩
theorem hide_none' {h : Heap} {as : List Addr} {a : Addr} (e : h.get? a = none) : (hideAll h as).get? a = none := by
  by_cases q : a ∈ as
  · exact hideAll_none _ q
  · cases z : (hideAll h as).get? a with
    | none => rfl
    | some o => rw [of_hideAll _ z] at e; cases e
theorem hide_stays {b h : Heap} (hb : b.StaysIn h) {as : List Addr} (hn : ∀ a ∈ as, b.get? a = none) : b.StaysIn (hideAll h as) := fun a o e => hideAll_get _ (hb a o e) fun q => by
  rw [hn a q] at e; cases e
/-- cells, and hidden mutable objects -/
theorem enterCH {d u : Nat} {R : Result → Shared → Prop}
    {name qual : Str} {params : Arguments} {body : List Stmt} {scope : Scope} {dV kV doc pm cdv ct oc : Value} {an od : Option Addr} {osl : Array (Option Value)} {f : Addr} {args : Args} {binds : List (Str × Value)}
    (G : Gd w p loose mean mg mb b) (hb : b.StaysIn s.heap) (hid : List (Addr × Obj)) (hh : ∀ q ∈ hid, s.heap.get? q.1 = some q.2 ∧ b.get? q.1 = none)
    (ho : (hd.heap_39 w.params).lookup f = some ⟨oc, od, .func (fnOf name qual params body scope dV kV doc pm an cdv ct), osl⟩)
    (hcd : codeIn (hd.heap_39 w.params) cdv qual = true) (hroom : d < recursionLimit)
    (hbind : BindsTo s (fnOf name qual params body scope dV kV doc pm an cdv ct) args binds)
    (hkind : (binds.all fun y => scope.names.lookup y.1 == some .local || scope.names.lookup y.1 == some .cell) = true) (hnd : ((cellsFrom 0 scope.names []).map (·.1)).Nodup)
    (h : ∀ g L h₁ tk cells, g = hideAll s.heap (hid.map (·.1)) → Fr g L h₁ (bindL (envOfC qual scope L f cdv).kindOf binds fun _ => none) → News g L h₁ (cells ++ hid) →
      CellsAre (bindC (envOfC qual scope L f cdv).kindOf binds fun _ => none) (cellsFrom (L + 1) scope.names []) cells → (hd.heap_39 w.params).In g → Top p loose mean mg mb g → (∀ q ∈ hid, q.1 < L) →
      wpAny (model PP w) (Ar (d + 1) (u + 3)) (execs body (envOfC qual scope L f cdv))
        (fun fl s' => R (.ok (.ret (match fl with | .ret v => v | _ => .none))) s') (fun _ _ => False)
        { s with heap := h₁, toks := tk })
    (hco : scope.isCoroutine = false) (hgen : scope.isGenerator = false) (hk : scope.kind = .function) : codeAny (model PP w) (Ar d u) (.call (.ref f) args) R s := by
  have G' := G.keeps hb
  have st : b.StaysIn (hideAll s.heap (hid.map (·.1))) := hide_stays hb fun a q => by
    obtain ⟨x, hx, rfl⟩ := List.mem_map.mp q
    exact (hh x hx).2
  have G'' := G.keeps st
  refine codeAny_call_function hroom (hb _ _ (G.X _ _ ho)) rfl hco hgen rfl (codeRec_of G'.X hcd) (hbind _ _ _ _ ?_)
  refine wpAny_newFunctionEnv_cells hk (kindsX hkind _) fun env' he s' x => ?_
  subst he
  refine ⟨G'.T.nolimit.keeps x.toInCall.keep, codeAny_func ?_⟩
  obtain ⟨h₁, tk, rfl, _⟩ := x.done
  have hk₁ := x.toInCall.keep
  obtain ⟨cells, NC, Y⟩ := Cl.news (h₀ := s.heap) (Nat.le_refl _) fun n c hm => ⟨x.cell n c (lookup_of_mem_nodup (cellsFrom_names scope.names 0 (s.heap.objs.size + 1) [] [] rfl ▸ hnd) hm), x.above n c hm⟩
  refine wpAny_mono (h _ s.heap.objs.size h₁ tk cells rfl ⟨x.toInCall.ns, fun a o e => hk₁ a o (of_hideAll _ e), Nat.le_of_eq (hideAll_size _ _)⟩ (fun q hq => ?_) Y G''.X G''.T fun q hq => Heap.lt_size (hh q hq).1) (fun _ _ z => z) fun _ _ z => z.elim
  rcases List.mem_append.mp hq with hq | hq
  · exact ⟨(NC q hq).1, (NC q hq).2.1, hide_none' (NC q hq).2.2⟩
  · exact ⟨hk₁ _ _ (hh q hq).1, Nat.ne_of_lt (Heap.lt_size (hh q hq).1), hideAll_none _ (List.mem_map_of_mem hq)⟩
/-- a closure's call -/
theorem enterN {d u : Nat} {R : Result → Shared → Prop}
    {name qual : Str} {params : Arguments} {body : List Stmt} {scope : Scope} {cl : List (Str × Addr)} {dV kV doc pm cdv ct : Value} {an : Option Addr} {f : Addr} {fo : Obj} {args : Args} {binds : List (Str × Value)}
    (G : Gd w p loose mean mg mb b) (hb : b.StaysIn s.heap) (hid : List (Addr × Obj)) (hh : ∀ q ∈ hid, s.heap.get? q.1 = some q.2 ∧ b.get? q.1 = none)
    (ho : s.heap.get? f = some fo) (hfd : fo.data = .func (fnX name qual params body scope cl dV kV doc pm an cdv ct))
    (hcd : s.heap.CodeRec cdv qual) (hroom : d < recursionLimit)
    (hbind : BindsTo s (fnX name qual params body scope cl dV kV doc pm an cdv ct) args binds) (hloc : ∀ y ∈ binds, scope.names.lookup y.1 = some .local)
    (h : ∀ g L h₁, g = hideAll s.heap (hid.map (·.1)) → Fr g L h₁ (fun y => binds.reverse.lookup y) → News g L h₁ hid → (hd.heap_39 w.params).In g → Top p loose mean mg mb g →
      wpAny (model PP w) (Ar (d + 1) (u + 3)) (execs body (envX qual scope L f cdv cl))
        (fun fl s' => R (.ok (.ret (match fl with | .ret v => v | _ => .none))) s') (fun _ _ => False)
        { s with heap := h₁, toks := s.toks + binds.length })
    (hcell : ∀ x ∈ scope.names, x.2 ≠ .cell) (hco : scope.isCoroutine = false := by rfl) (hgen : scope.isGenerator = false := by rfl) (hk : scope.kind = .function := by rfl) : codeAny (model PP w) (Ar d u) (.call (.ref f) args) R s := by
  have st : b.StaysIn (hideAll s.heap (hid.map (·.1))) := hide_stays hb fun a q => by
    obtain ⟨x, hx, rfl⟩ := List.mem_map.mp q
    exact (hh x hx).2
  refine codeAny_call_def (fd := fnX name qual params body scope cl dV kV doc pm an cdv ct) (body := body) (binds := binds) hroom ho hfd (G.T.nolimit.keeps hb) hcd rfl hbind hcell hloc (fun h₁ hns hk₁ => ?_) hco hgen hk
  have G' := G.keeps st
  refine wpAny_mono (h _ s.heap.objs.size h₁ rfl ⟨hns, fun a o e => hk₁ a o (of_hideAll _ e), Nat.le_of_eq (hideAll_size _ _)⟩
    (fun q hq => ⟨hk₁ _ _ (hh q hq).1, Nat.ne_of_lt (Heap.lt_size (hh q hq).1), hideAll_none _ (List.mem_map_of_mem hq)⟩) G'.X G'.T) (fun _ _ z => z) fun _ _ z => z.elim
theorem hidden_none' {h g : Heap} {as : List Addr} {D : Addr} (hg : g = hideAll h as) (h1 : g.get? D = none) (hne : D ∉ as) : h.get? D = none := by
  cases e : h.get? D with
  | none => rfl
  | some o' => rw [hg, hideAll_get _ e hne] at h1; cases h1
theorem kept_hid {W : List Addr} {h g h' : Heap} {L : Addr} {m : Str → Option Value} {hid : List (Addr × Obj)} (hg : g = hideAll h (hid.map (·.1))) (hh : ∀ q ∈ hid, q.1 ∉ W → h'.get? q.1 = some q.2 ∧ h.get? q.1 = some q.2) (F : Fr g L h' m) : Kept W h h' := by
  intro c o hc e
  by_cases q : c ∈ hid.map (·.1)
  · obtain ⟨x, hx, rfl⟩ := List.mem_map.mp q
    have := hh x hx hc
    rw [this.2] at e; cases e
    exact this.1
  · exact F.keep c o (by rw [hg]; exact hideAll_get _ e q)
def CodeO (oc : Obj) (qual : Str) : Prop := ∃ vs t, oc.data = .fields vs ∧ vs[1]? = some (.str qual t)
theorem sq_bound {B : Int} {wv : Int} {ns : List Int} (hB : B = 2 ^ wv.toNat) (hw0 : 1 ≤ wv) (hw1 : wv ≤ 9) (hn : ns.length ≤ 20) (hr : Limbs B ns) : 0 ≤ val B ns ∧ val B ns < 2 ^ 180 := by
  subst hB
  have hB1 := base_gt hw0
  refine ⟨val_nonneg (by omega) hr, Int.lt_of_lt_of_le (val_lt (by omega) hr) ?_⟩
  rw [← Int.pow_mul]
  have h1 := Nat.mul_le_mul (show wv.toNat ≤ 9 by omega) hn
  exact int_pow_le (B := 2) (by omega) (Nat.le_trans h1 (by decide))
theorem sq_bound2 {v u : Int} (h0 : 0 ≤ v) (h1 : v < 2 ^ 180) (g0 : 0 ≤ u) (g1 : u < 2 ^ 180) : 0 ≤ v * u ∧ v * u < 2 ^ 360 := by
  refine ⟨Int.mul_nonneg h0 g0, ?_⟩
  have a := Int.mul_le_mul (Int.le_of_lt h1) (Int.le_of_lt g1) g0 (by decide)
  have : v * u ≠ 2 ^ 180 * 2 ^ 180 := by
    intro e
    have c := Int.mul_le_mul (show v ≤ 2 ^ 180 - 1 by omega) (show u ≤ 2 ^ 180 - 1 by omega) g0 (by decide)
    rw [e] at c
    exact absurd c (by decide)
  rw [show (2 : Int) ^ 360 = 2 ^ 180 * 2 ^ 180 by decide]
  omega
theorem not_one {a t : Addr} {o : Obj} (h : @LT.lt Nat _ t a) : a ∉ List.map (fun x : Addr × Obj => x.1) [(t, o)] := fun z => by
  rw [List.mem_singleton.mp z] at h; exact Nat.lt_irrefl _ h
theorem bits_lt {v : Int} {m : Nat} (h0 : 0 ≤ v) (h1 : v < 2 ^ m) : Builtin.Int.intBits v ≤ m := by
  rw [PySem.intBits_le_iff]
  obtain ⟨n, rfl⟩ := Int.eq_ofNat_of_zero_le h0
  have : ((2 ^ m : Nat) : Int) = 2 ^ m := by simp
  rw [← this] at h1
  exact Int.ofNat_lt.mp h1
theorem bits_mono {v : Int} {m n : Nat} (h : Builtin.Int.intBits v ≤ m) (hmn : m ≤ n) : Builtin.Int.intBits v ≤ n := Nat.le_trans h hmn
theorem bits_pow {a n : Int} (h : Builtin.Int.intBits a ≤ 400) (h0 : 0 ≤ n) (h1 : n ≤ 1000) : (Builtin.Int.intBits a : Int) * n ≤ 2 ^ 27 := by
  have := Int.mul_le_mul (show (Builtin.Int.intBits a : Int) ≤ 400 by omega) h1 h0 (by omega)
  omega
theorem row_lt {v : Int} (h : v < 2 ^ 360) : v < 2 ^ 512 := Int.lt_trans h (by
  rw [show (2 : Int) ^ 512 = 2 ^ 360 * 2 ^ 152 by rw [← Int.pow_add]]
  have a : (0 : Int) < 2 ^ 360 := Int.pow_pos (by omega)
  have c : (1 : Int) < 2 ^ 152 := by decide
  have := Int.mul_lt_mul_of_pos_left c a
  omega)
theorem not_all {a : Addr} {l : List (Addr × Obj)} (h : ∀ q ∈ l, @LT.lt Nat _ q.1 a) : a ∉ l.map (·.1) := fun z => by
  obtain ⟨x, hx, e⟩ := List.mem_map.mp z
  have := h x hx
  rw [e] at this; exact Nat.lt_irrefl _ this
inductive MulOut (H : Heap) (T : Addr) (os : List Value) (B nv x y : Int) (v : Value) (h : Heap) : Prop
  | mk (hr0 : LOut H (fun ms => Row B ms ∧ val B ms = nv) v h) (tt : Addr) (n : Nat) (t1 : Tok) (t2 : Tok) (e : Nat) (hq0 : H.get? tt = none) (hq1 : h.get? tt = some (tupOf [.int x t1, .int y t2] n)) (hq2 : h.get? T = some (listOf (List.toArray (os ++ [.ref tt])) e)) : MulOut H T os B nv x y v h
/-- what a call of the product's closure does -/
def MulOk (w : World) (b : Heap) (Ks : List (Addr × Obj)) (f T : Addr) (wv : Int) : Prop :=
  ∀ (s : Shared) (l l3 : Addr) (vs vs3 os : List Value) (ns ns3 : List Int) (e : Nat) (tw : Tok), b.StaysIn s.heap → KeepsAll Ks s.heap → s.heap.get? T = some (listOf (List.toArray os) e) → os.length ≤ 100 →
    s.heap.IsList l (List.toArray vs) → s.heap.IsList l3 (List.toArray vs3) → l ≠ T → l3 ≠ T → IntsAre vs ns → IntsAre vs3 ns3 → ns.length ≤ 20 → ns3.length ≤ 20 → Row (2 ^ wv.toNat) ns → Row (2 ^ wv.toNat) ns3 →
    codeAny (model PP w) (Ar 970 3500) (.call (.ref f) ⟨[.ref l, .ref l3, .int wv tw], []⟩) (Done [T] (MulOut s.heap T os (2 ^ wv.toNat) (val (2 ^ wv.toNat) ns * val (2 ^ wv.toNat) ns3) ns.length ns3.length) s) s
theorem hide_keeps {b h : Heap} (hb : b.StaysIn h) {as : List Addr} (hn : ∀ a ∈ as, b.get? a = none) : b.StaysIn (hideAll h as) := fun a o e => hideAll_get _ (hb a o e) fun q => by
  rw [hn a q] at e; cases e
theorem row_short {B : Int} (hB : 1 < B) {a : List Int} (h : Row B a) {m : Nat} (hv : val B a < B ^ m) : a.length ≤ m := by
  by_cases hn : a = []
  · rw [hn]; exact Nat.zero_le _
  apply Nat.le_of_not_lt
  intro hlt
  have h1 := h.ge (by omega) hn
  have h2 := int_pow_le (B := B) (by omega) (show m ≤ a.length - 1 by omega)
  omega
theorem sq_short {B : Int} (hB : 1 < B) {a c : List Int} (ha : Row B a) (hc : Row B c) (hv : val B c = val B a ^ 2) : c.length ≤ 2 * a.length := by
  refine row_short hB hc ?_
  have h0 := val_nonneg (show 0 < B by omega) ha.1
  have h1 := val_lt (show 0 < B by omega) ha.1
  rw [hv, Nat.mul_comm, Int.pow_mul]
  have h2 := Int.mul_lt_mul_of_pos_left h1 (show 0 < B ^ a.length by omega)
  have h3 := Int.mul_le_mul_of_nonneg_right (Int.le_of_lt h1) h0
  rw [Int.pow_succ, Int.pow_succ, Int.pow_zero, Int.one_mul, Int.pow_succ, Int.pow_succ, Int.pow_zero, Int.one_mul]
  omega
theorem kar_eq {x y P a : Int} (ha : a = (x - y) ^ 2) : x ^ 2 + P * (x ^ 2 + y ^ 2 - a) + P ^ 2 * y ^ 2 = (x + P * y) ^ 2 := by subst ha; grind
theorem kar_ge {x y a : Int} (hx : 0 ≤ x) (hy : 0 ≤ y) (ha : a = (x - y) ^ 2) : a ≤ x ^ 2 + y ^ 2 := by
  have := Int.mul_nonneg hx hy
  grind
theorem kar_apart {x y d : Int} (h : d = x - y ∨ d = y - x) : d ^ 2 = (x - y) ^ 2 := by
  rcases h with rfl | rfl
  · rfl
  · grind
theorem hidden_none {h g : Heap} {T D : Addr} {o : Obj} (hg : g = hideAll h (List.map (fun x => x.1) [(T, o)])) (h1 : g.get? D = none) (hne : D ≠ T) : h.get? D = none := by
  cases e : h.get? D with
  | none => rfl
  | some o' => rw [hg, hideAll_get _ e (by simpa using hne)] at h1; cases h1
theorem half_len (n : Nat) : 2 * ((n : Int) + 1).fdiv 2 ≤ (n : Int) + 1 ∧ (n : Int) ≤ 2 * ((n : Int) + 1).fdiv 2 := by
  rw [Int.fdiv_eq_ediv_of_nonneg _ (by omega)]
  omega
local macro_rules | `(tactic| walk_at "callWith ref") => `(tactic| (k_here; (with_reducible rename Fr _ _ _ _ => kF); (with_reducible rename FnAt _ _ => kX); k_dflt (refine' callWith_own kF kX ?_); k_whole))
local macro_rules | `(tactic| walk_at "FnAt") => `(tactic| ((with_reducible rename Fr _ _ _ _ => kF); exact fnAt_own kF (by with_reducible assumption)))
set_option maxHeartbeats 8000000 in
theorem c_sk {Ks : List (Addr × Obj)} {f T : Addr} {fo : Obj} {wv lv : Int} {d u n n' K K2 : Nat} (G : Gd w p loose mean mg mb b) (hT0 : b.get? T = none) (hS : SqrOk w b Ks f T wv) (hKT : ∀ q ∈ Ks, q.1 ≠ T) (hfK : (f, fo) ∈ Ks) (hfo : IsFn fo)
    (hd : d ≤ 964) (hu : u ≤ 3450) (hw0 : 1 ≤ wv) (hw1 : wv ≤ 9) (hl0 : 0 ≤ lv) (hl1 : lv ≤ 100) (hn : n ≤ 20) (hn' : n ≤ 2 * n') (hK : 1 ≤ K2) (IH : 2 ≤ n → SK w b Ks f T wv lv (d + 1) (u + 3) n' K ∧ 3 * K ≤ K2) : SK w b Ks f T wv lv d u n K2 := by
  intro s l vs os ns ts e tw tl hb hKs hT hTi hTl hl hlT hi hnn hr
  have hB1 := base_gt hw0
  have hroom : d < recursionLimit := Nat.lt_of_le_of_lt hd (by decide)
  refine' enter (binds := [(Str.ofString "a", .ref l), (Str.ofString "w", .int wv tw), (Str.ofString "least", .int lv tl), (Str.ofString "sqr", .ref f)]) G hb [(T, listOf (List.toArray os) e)] ?hh ?ho ?hcd ?hr ?hb ?hl ?_ ?c1 ?c2 ?c3 ?c4
  case ho => k_is
  case hcd => k_is
  case hr => first | decide | assumption
  case hb => exact BindsTo.of_eq rfl
  case hl => exact locs rfl
  case c1 => rfl
  case c2 => rfl
  case c3 => rfl
  case c4 => decide
  case hh => exact fun q hq => by rw [List.mem_singleton.mp hq]; exact ⟨hT, hT0⟩
  intro g L h₁ hg F' N' X' T'
  rw [bindsM_eq] at F'
  dsimp only [bindsM, List.reverse, List.reverseAux] at F'
  try dsimp only
  k_fold
  have hlg : g.IsList l (List.toArray vs) := by
    obtain ⟨o, ho, r⟩ := hl
    refine ⟨o, ?_, r⟩
    rw [hg]
    exact hideAll_get _ ho (fun z => hlT (by simpa using z))
  have hbg : b.StaysIn g := by rw [hg]; exact hide_keeps hb (by simpa using hT0)
  have hKg : KeepsAll Ks g := fun q hq => by rw [hg]; exact hideAll_get _ (hKs q hq) (fun z => hKT q hq (by simpa using z))
  have hkk : ∀ {h' : Heap} {m' : Str → Option Value}, Fr g L h' m' → Kept [T] s.heap h' := fun F c o hc q => F.keep c o (by rw [hg]; exact hideAll_get _ q (by simpa using hc))
  have hfg : FnAt f g := by
    obtain ⟨oc, od, fd, sl, rfl⟩ := hfo
    exact ⟨oc, od, fd, sl, hKg _ hfK⟩
  obtain ⟨hH0, hH1, hH2, hH3, hH4, hH5, hH6⟩ := sk_facts (half_len ns.length) hnn hn hn'
  have hn0 : ns.length ≤ 20 := Nat.le_trans hnn hn
  k_steps
  repeat' ((first | (refine goOn ?_; k_here; (with_reducible show wpAny _ _ (PySem.call (Value.ref 81) _) _ _ _); (with_reducible rename Fr _ _ _ _ => kFq); (with_reducible rename News _ _ _ _ => kNq); k_dflt (refine' usePair (c_split ⟨?zqgx, ?zqgt⟩ kFq.keep ?zqhl ?zqhi ?zqhn ?zqs0 ?zqs1) kFq kNq rfl (by first | exact Nat.le_of_ble_eq_true rfl | (dsimp only [Ar]; omega)) (by first | exact Nat.le_of_ble_eq_true rfl | (dsimp only [Ar]; omega)) ?_; (case zqgx => with_reducible assumption); (case zqgt => with_reducible assumption); (case zqhl => first | exact Fr.lst kFq (by with_reducible assumption) | exact News.isList kNq (by k_mem)); (case zqhi => with_reducible assumption); (case zqhn => first | with_reducible assumption | exact Nat.le_trans (by with_reducible assumption) (Nat.le_of_ble_eq_true rfl) | omega | (simp only [List.length_take, List.length_drop, List.length_append, List.length_cons, List.length_nil]; omega)); (case zqs0 => first | with_reducible assumption | omega | (simp only [List.length_take, List.length_drop, List.length_append, List.length_cons, List.length_nil]; omega)); (case zqs1 => first | with_reducible assumption | omega | (simp only [List.length_take, List.length_drop, List.length_append, List.length_cons, List.length_nil]; omega))); intro _ _ _ _ _ _ _ _ _ _ _ _ _ _ _ _ _ _ _ zhP; have _ := zhP.1; have _ := zhP.2; clear zhP; clear kFq kNq) | (refine goOn ?_; k_here; (with_reducible show wpAny _ _ (PySem.call (Value.ref 95) _) _ _ _); (with_reducible rename Fr _ _ _ _ => kFq); (with_reducible rename News _ _ _ _ => kNq); k_dflt (refine' useBool (c_difference ⟨?zqgx, ?zqgt⟩ kFq.keep ?zqhl ?zqhl2 ?zqhi ?zqhi2 ?zqhn ?zqhn2 ?zqw0 ?zqw1 ?zqr1 ?zqr2) kFq kNq rfl (by first | exact Nat.le_of_ble_eq_true rfl | (dsimp only [Ar]; omega)) (by first | exact Nat.le_of_ble_eq_true rfl | (dsimp only [Ar]; omega)) ?_; (case zqgx => with_reducible assumption); (case zqgt => with_reducible assumption); (case zqhl => first | exact Fr.lst kFq (by with_reducible assumption) | exact News.isList kNq (by k_mem)); (case zqhl2 => first | exact Fr.lst kFq (by with_reducible assumption) | exact News.isList kNq (by k_mem)); (case zqhi => with_reducible assumption); (case zqhi2 => with_reducible assumption); (case zqhn => first | with_reducible assumption | exact Nat.le_trans (by with_reducible assumption) (Nat.le_of_ble_eq_true rfl) | omega | (simp only [List.length_take, List.length_drop, List.length_append, List.length_cons, List.length_nil]; omega)); (case zqhn2 => first | with_reducible assumption | exact Nat.le_trans (by with_reducible assumption) (Nat.le_of_ble_eq_true rfl) | omega | (simp only [List.length_take, List.length_drop, List.length_append, List.length_cons, List.length_nil]; omega)); (case zqw0 => first | with_reducible assumption | omega | (simp only [List.length_take, List.length_drop, List.length_append, List.length_cons, List.length_nil]; omega)); (case zqw1 => first | with_reducible assumption | omega | (simp only [List.length_take, List.length_drop, List.length_append, List.length_cons, List.length_nil]; omega)); (case zqr1 => with_reducible assumption); (case zqr2 => with_reducible assumption)); intro _ _ _ _ _ _ _ _ _ _ _ _ _ _ zhP; have _ := zhP.1; have _ := zhP.2.1; have _ := zhP.2.2; clear zhP; clear kFq kNq) | (refine goOn ?_; k_here; (with_reducible show wpAny _ _ (PySem.call (Value.ref 109) _) _ _ _); (with_reducible rename Fr _ _ _ _ => kFq); (with_reducible rename News _ _ _ _ => kNq); k_dflt (refine' useList (c_middle_of ⟨?zqgx, ?zqgt⟩ kFq.keep ?zqhl ?zqhl2 ?zqhl3 ?zqhi ?zqhi2 ?zqhi3 ?zqhn ?zqhn2 ?zqhn3 ?zqw0 ?zqw1 ?zqr1 ?zqr2 ?zqr3 ?zqge) kFq kNq rfl (by first | exact Nat.le_of_ble_eq_true rfl | (dsimp only [Ar]; omega)) (by first | exact Nat.le_of_ble_eq_true rfl | (dsimp only [Ar]; omega)) ?_; (case zqgx => with_reducible assumption); (case zqgt => with_reducible assumption); (case zqhl => first | exact Fr.lst kFq (by with_reducible assumption) | exact News.isList kNq (by k_mem)); (case zqhl2 => first | exact Fr.lst kFq (by with_reducible assumption) | exact News.isList kNq (by k_mem)); (case zqhl3 => first | exact Fr.lst kFq (by with_reducible assumption) | exact News.isList kNq (by k_mem)); (case zqhi => with_reducible assumption); (case zqhi2 => with_reducible assumption); (case zqhi3 => with_reducible assumption); (case zqhn => first | with_reducible assumption | exact Nat.le_trans (by with_reducible assumption) (Nat.le_of_ble_eq_true rfl) | omega | (simp only [List.length_take, List.length_drop, List.length_append, List.length_cons, List.length_nil]; omega)); (case zqhn2 => first | with_reducible assumption | exact Nat.le_trans (by with_reducible assumption) (Nat.le_of_ble_eq_true rfl) | omega | (simp only [List.length_take, List.length_drop, List.length_append, List.length_cons, List.length_nil]; omega)); (case zqhn3 => first | with_reducible assumption | exact Nat.le_trans (by with_reducible assumption) (Nat.le_of_ble_eq_true rfl) | omega | (simp only [List.length_take, List.length_drop, List.length_append, List.length_cons, List.length_nil]; omega)); (case zqw0 => first | with_reducible assumption | omega | (simp only [List.length_take, List.length_drop, List.length_append, List.length_cons, List.length_nil]; omega)); (case zqw1 => first | with_reducible assumption | omega | (simp only [List.length_take, List.length_drop, List.length_append, List.length_cons, List.length_nil]; omega)); (case zqr1 => with_reducible assumption); (case zqr2 => with_reducible assumption); (case zqr3 => with_reducible assumption); (case zqge => first | with_reducible assumption | (intro _; omega) | (intro hb0; cases hb0))); intro _ _ _ _ _ _ _ _ _ _ zhP; have _ := zhP.1; have _ := zhP.2.1; have _ := zhP.2.2; clear zhP; clear kFq kNq) | (refine goOn ?_; k_here; (with_reducible show wpAny _ _ (PySem.call (Value.ref 102) _) _ _ _); (with_reducible rename Fr _ _ _ _ => kFq); (with_reducible rename News _ _ _ _ => kNq); k_dflt (refine' useList (c_put_together ⟨?zqgx, ?zqgt⟩ kFq.keep ?zqhl ?zqhl2 ?zqhl3 ?zqhi ?zqhi2 ?zqhi3 ?zqhn ?zqhn2 ?zqhn3 ?zqs0 ?zqs1 ?zqw0 ?zqw1 ?zqr1 ?zqr2 ?zqr3) kFq kNq rfl (by first | exact Nat.le_of_ble_eq_true rfl | (dsimp only [Ar]; omega)) (by first | exact Nat.le_of_ble_eq_true rfl | (dsimp only [Ar]; omega)) ?_; (case zqgx => with_reducible assumption); (case zqgt => with_reducible assumption); (case zqhl => first | exact Fr.lst kFq (by with_reducible assumption) | exact News.isList kNq (by k_mem)); (case zqhl2 => first | exact Fr.lst kFq (by with_reducible assumption) | exact News.isList kNq (by k_mem)); (case zqhl3 => first | exact Fr.lst kFq (by with_reducible assumption) | exact News.isList kNq (by k_mem)); (case zqhi => with_reducible assumption); (case zqhi2 => with_reducible assumption); (case zqhi3 => with_reducible assumption); (case zqhn => first | with_reducible assumption | exact Nat.le_trans (by with_reducible assumption) (Nat.le_of_ble_eq_true rfl) | exact le_max3 (by with_reducible assumption) (by with_reducible assumption) (by with_reducible assumption) (by with_reducible assumption) rfl | omega | (simp only [List.length_take, List.length_drop, List.length_append, List.length_cons, List.length_nil]; omega)); (case zqhn2 => first | with_reducible assumption | exact Nat.le_trans (by with_reducible assumption) (Nat.le_of_ble_eq_true rfl) | exact le_max3 (by with_reducible assumption) (by with_reducible assumption) (by with_reducible assumption) (by with_reducible assumption) rfl | omega | (simp only [List.length_take, List.length_drop, List.length_append, List.length_cons, List.length_nil]; omega)); (case zqhn3 => first | with_reducible assumption | exact Nat.le_trans (by with_reducible assumption) (Nat.le_of_ble_eq_true rfl) | exact le_max3 (by with_reducible assumption) (by with_reducible assumption) (by with_reducible assumption) (by with_reducible assumption) rfl | omega | (simp only [List.length_take, List.length_drop, List.length_append, List.length_cons, List.length_nil]; omega)); (case zqs0 => first | with_reducible assumption | omega | (simp only [List.length_take, List.length_drop, List.length_append, List.length_cons, List.length_nil]; omega)); (case zqs1 => first | with_reducible assumption | omega | (simp only [List.length_take, List.length_drop, List.length_append, List.length_cons, List.length_nil]; omega)); (case zqw0 => first | with_reducible assumption | omega | (simp only [List.length_take, List.length_drop, List.length_append, List.length_cons, List.length_nil]; omega)); (case zqw1 => first | with_reducible assumption | omega | (simp only [List.length_take, List.length_drop, List.length_append, List.length_cons, List.length_nil]; omega)); (case zqr1 => with_reducible assumption); (case zqr2 => with_reducible assumption); (case zqr3 => with_reducible assumption)); intro _ _ _ _ _ _ _ _ _ _ zhP; have _ := zhP.1; have _ := zhP.2.1; have _ := zhP.2.2; clear zhP; clear kFq kNq) | (refine goOn ?_; k_here; (with_reducible show wpAny _ _ (PySem.call (Value.ref 123) _) _ _ _); (with_reducible rename Fr _ _ _ _ => kFq); (with_reducible rename News _ _ _ _ => kNq); (with_reducible rename Heap.StaysIn _ _ => kB); (with_reducible rename KeepsAll _ _ => kK); (with_reducible rename SK _ _ _ _ _ _ _ _ _ _ _ => kC); k_dflt (refine' useSqr (kC _ _ _ _ _ _ _ _ _ (stays_fr kFq kB) (kK.fr kFq) ?zqhT ?zqht ?zqtk ?zqhl ?zqne ?zqhi ?zqhn ?zqr1) kFq kNq ?zqU rfl (by first | exact Nat.le_of_ble_eq_true rfl | (dsimp only [Ar]; omega)) (by first | exact Nat.le_of_ble_eq_true rfl | (dsimp only [Ar]; omega)) ?_; (case zqhT => exact (kNq (_, _) (by k_mem)).1); (case zqht => with_reducible assumption); (case zqtk => first | with_reducible assumption | omega | (simp only [List.length_take, List.length_drop, List.length_append, List.length_cons, List.length_nil]; omega)); (case zqhl => first | exact Fr.lst kFq (by with_reducible assumption) | exact News.isList kNq (by k_mem)); (case zqne => k_ne); (case zqhi => with_reducible assumption); (case zqhn => first | with_reducible assumption | exact Nat.le_trans (by with_reducible assumption) (Nat.le_of_ble_eq_true rfl) | exact le_max2 (by with_reducible assumption) (by with_reducible assumption) (by with_reducible assumption) | omega | (simp only [List.length_take, List.length_drop, List.length_append, List.length_cons, List.length_nil]; omega)); (case zqr1 => with_reducible assumption); (case zqU => k_updF)); intro _ _ _ _ _ _ _ _ _ _ kNn; (try dsimp only [List.append] at kNn); revert kNn; intro _ _ _ _ _ _ _ _ _; clear kFq kNq) | (refine goOn ?_; k_here; (with_reducible show wpAny _ _ (PySem.call (Value.ref _) _) _ _ _); (with_reducible rename Fr _ _ _ _ => kFq); (with_reducible rename News _ _ _ _ => kNq); (with_reducible rename Heap.StaysIn _ _ => kB); (with_reducible rename KeepsAll _ _ => kK); (with_reducible rename SqrOk _ _ _ _ _ _ => kC); k_dflt (refine' useSqr (kC _ _ _ _ _ _ _ _ (stays_fr kFq kB) (kK.fr kFq) ?zqhT ?zqht ?zqtk ?zqhl ?zqne ?zqhi ?zqhn ?zqr1) kFq kNq ?zqU rfl (by first | exact Nat.le_of_ble_eq_true rfl | (dsimp only [Ar]; omega)) (by first | exact Nat.le_of_ble_eq_true rfl | (dsimp only [Ar]; omega)) ?_; (case zqhT => exact (kNq (_, _) (by k_mem)).1); (case zqht => with_reducible assumption); (case zqtk => first | with_reducible assumption | omega | (simp only [List.length_take, List.length_drop, List.length_append, List.length_cons, List.length_nil]; omega)); (case zqhl => first | exact Fr.lst kFq (by with_reducible assumption) | exact News.isList kNq (by k_mem)); (case zqne => k_ne); (case zqhi => with_reducible assumption); (case zqhn => first | with_reducible assumption | exact Nat.le_trans (by with_reducible assumption) (Nat.le_of_ble_eq_true rfl) | exact le_max2 (by with_reducible assumption) (by with_reducible assumption) (by with_reducible assumption) | omega | (simp only [List.length_take, List.length_drop, List.length_append, List.length_cons, List.length_nil]; omega)); (case zqr1 => with_reducible assumption); (case zqU => k_updF)); intro _ _ _ _ _ _ _ _ _ _ kNn; (try dsimp only [List.append] at kNn); revert kNn; intro _ _ _ _ _ _ _ _ _; clear kFq kNq) | (refine goOn ?_; k_dflt (refine' kmk_slice_ints ?zqF ?zqN ?zql ?zqp ?zqq ?zqi ?zqm rfl ?_ ?zqs ?zqt ?zqz; (case zqF => k_asm); (case zqN => k_asm); (case zql => first | exact Fr.lst (by assumption) (by assumption) | exact News.isList (by assumption) (by k_mem)); (case zqp => kmk_part); (case zqq => kmk_part); (case zqi => assumption); (case zqm => first | exact kmk_all (by assumption) | exact kmk_from (by assumption) (by first | assumption | omega) | exact kmk_upto (by assumption) (by first | assumption | omega) | exact kmk_run (by assumption) (by first | assumption | omega) (by first | assumption | omega)); (case zqs => with_unfolding_all rfl); (case zqt => kmk_pure); (case zqz => exact sz_ok (by assumption) (by omega))); intro _ _ _ _ _ zl1 _ zhC zhL; (try k_lt zl1); (try k_sweep); clear zhC zhL) | (refine goOn ?_; with_reducible rename Fr _ _ _ _ => kFq; with_reducible rename News _ _ _ _ => kNq; k_dflt (refine' appD kFq kNq ?zqo ?zqz ?_; (case zqo => first | exact offOne (by assumption) | exact offNil | assumption); (case zqz => first | assumption | omega)); intro _ _ _; clear kFq kNq) | fail); (try k_steps))
  · unfold Stop
    rename Fr _ _ _ _ => F4
    rename News _ _ _ _ => N4
    rename AwayFrom _ _ => ne
    rename _ < ite _ _ _ => hlt
    refine ⟨_, _, _, rfl, rfl, hkk F4, ⟨_, _, _, _, rfl, hidden_none hg (N4 _ (.head _)).2.2 (Ne.symm (ne.ne (.head _))), (N4 _ (.head _)).1, by assumption, by assumption, by assumption⟩, _, _, _, (N4 _ (.tail _ (.head _))).1, by assumption, by assumption, by omega, fun x hx => ?_⟩
    rename ∀ x, x ∈ _ → 0 ≤ x ∧ x < _ => m3
    have := m3 x hx
    have hm : (ns.length : Int) < max 2 lv := by
      split at hlt <;> omega
    omega
  rename Nrm _ _ => hP1
  rename ¬ _ < ite _ _ _ => hge
  obtain ⟨IH, hK3⟩ := IH (by split at hge <;> omega)
  rename _ = List.drop _ _ => hP2
  have hr1 := hP1.row (hr.1.take _)
  have hL1 := hP1.len
  have hV1 := hP1.val (2 ^ wv.toNat)
  subst hP2
  have hr2 := hr.drop ((ns.length + 1 : Int).fdiv 2).toNat
  have hL2 := List.length_drop (i := ((ns.length + 1 : Int).fdiv 2).toNat) (l := ns)
  have hval := val_take_drop (2 ^ wv.toNat) ns ((ns.length + 1 : Int).fdiv 2).toNat hH2
  rw [List.length_take] at hL1
  have hL3 := Nat.le_trans hL1 (Nat.le_trans (Nat.min_le_left _ _) hH5)
  replace hL1 := Nat.le_trans hL1 (Nat.le_trans (Nat.min_le_left _ _) hH6)
  have hL4 := Nat.le_trans (Nat.le_of_eq hL2) hH3
  replace hL2 := Nat.le_trans (Nat.le_of_eq hL2) hH4
  rw [← hV1] at hval
  k_steps
  repeat' ((first | (refine goOn ?_; k_here; (with_reducible show wpAny _ _ (PySem.call (Value.ref 81) _) _ _ _); (with_reducible rename Fr _ _ _ _ => kFq); (with_reducible rename News _ _ _ _ => kNq); k_dflt (refine' usePair (c_split ⟨?zqgx, ?zqgt⟩ kFq.keep ?zqhl ?zqhi ?zqhn ?zqs0 ?zqs1) kFq kNq rfl (by first | exact Nat.le_of_ble_eq_true rfl | (dsimp only [Ar]; omega)) (by first | exact Nat.le_of_ble_eq_true rfl | (dsimp only [Ar]; omega)) ?_; (case zqgx => with_reducible assumption); (case zqgt => with_reducible assumption); (case zqhl => first | exact Fr.lst kFq (by with_reducible assumption) | exact News.isList kNq (by k_mem)); (case zqhi => with_reducible assumption); (case zqhn => first | with_reducible assumption | exact Nat.le_trans (by with_reducible assumption) (Nat.le_of_ble_eq_true rfl) | omega | (simp only [List.length_take, List.length_drop, List.length_append, List.length_cons, List.length_nil]; omega)); (case zqs0 => first | with_reducible assumption | omega | (simp only [List.length_take, List.length_drop, List.length_append, List.length_cons, List.length_nil]; omega)); (case zqs1 => first | with_reducible assumption | omega | (simp only [List.length_take, List.length_drop, List.length_append, List.length_cons, List.length_nil]; omega))); intro _ _ _ _ _ _ _ _ _ _ _ _ _ _ _ _ _ _ _ zhP; have _ := zhP.1; have _ := zhP.2; clear zhP; clear kFq kNq) | (refine goOn ?_; k_here; (with_reducible show wpAny _ _ (PySem.call (Value.ref 95) _) _ _ _); (with_reducible rename Fr _ _ _ _ => kFq); (with_reducible rename News _ _ _ _ => kNq); k_dflt (refine' useBool (c_difference ⟨?zqgx, ?zqgt⟩ kFq.keep ?zqhl ?zqhl2 ?zqhi ?zqhi2 ?zqhn ?zqhn2 ?zqw0 ?zqw1 ?zqr1 ?zqr2) kFq kNq rfl (by first | exact Nat.le_of_ble_eq_true rfl | (dsimp only [Ar]; omega)) (by first | exact Nat.le_of_ble_eq_true rfl | (dsimp only [Ar]; omega)) ?_; (case zqgx => with_reducible assumption); (case zqgt => with_reducible assumption); (case zqhl => first | exact Fr.lst kFq (by with_reducible assumption) | exact News.isList kNq (by k_mem)); (case zqhl2 => first | exact Fr.lst kFq (by with_reducible assumption) | exact News.isList kNq (by k_mem)); (case zqhi => with_reducible assumption); (case zqhi2 => with_reducible assumption); (case zqhn => first | with_reducible assumption | exact Nat.le_trans (by with_reducible assumption) (Nat.le_of_ble_eq_true rfl) | omega | (simp only [List.length_take, List.length_drop, List.length_append, List.length_cons, List.length_nil]; omega)); (case zqhn2 => first | with_reducible assumption | exact Nat.le_trans (by with_reducible assumption) (Nat.le_of_ble_eq_true rfl) | omega | (simp only [List.length_take, List.length_drop, List.length_append, List.length_cons, List.length_nil]; omega)); (case zqw0 => first | with_reducible assumption | omega | (simp only [List.length_take, List.length_drop, List.length_append, List.length_cons, List.length_nil]; omega)); (case zqw1 => first | with_reducible assumption | omega | (simp only [List.length_take, List.length_drop, List.length_append, List.length_cons, List.length_nil]; omega)); (case zqr1 => with_reducible assumption); (case zqr2 => with_reducible assumption)); intro _ _ _ _ _ _ _ _ _ _ _ _ _ _ zhP; have _ := zhP.1; have _ := zhP.2.1; have _ := zhP.2.2; clear zhP; clear kFq kNq) | (refine goOn ?_; k_here; (with_reducible show wpAny _ _ (PySem.call (Value.ref 109) _) _ _ _); (with_reducible rename Fr _ _ _ _ => kFq); (with_reducible rename News _ _ _ _ => kNq); k_dflt (refine' useList (c_middle_of ⟨?zqgx, ?zqgt⟩ kFq.keep ?zqhl ?zqhl2 ?zqhl3 ?zqhi ?zqhi2 ?zqhi3 ?zqhn ?zqhn2 ?zqhn3 ?zqw0 ?zqw1 ?zqr1 ?zqr2 ?zqr3 ?zqge) kFq kNq rfl (by first | exact Nat.le_of_ble_eq_true rfl | (dsimp only [Ar]; omega)) (by first | exact Nat.le_of_ble_eq_true rfl | (dsimp only [Ar]; omega)) ?_; (case zqgx => with_reducible assumption); (case zqgt => with_reducible assumption); (case zqhl => first | exact Fr.lst kFq (by with_reducible assumption) | exact News.isList kNq (by k_mem)); (case zqhl2 => first | exact Fr.lst kFq (by with_reducible assumption) | exact News.isList kNq (by k_mem)); (case zqhl3 => first | exact Fr.lst kFq (by with_reducible assumption) | exact News.isList kNq (by k_mem)); (case zqhi => with_reducible assumption); (case zqhi2 => with_reducible assumption); (case zqhi3 => with_reducible assumption); (case zqhn => first | with_reducible assumption | exact Nat.le_trans (by with_reducible assumption) (Nat.le_of_ble_eq_true rfl) | omega | (simp only [List.length_take, List.length_drop, List.length_append, List.length_cons, List.length_nil]; omega)); (case zqhn2 => first | with_reducible assumption | exact Nat.le_trans (by with_reducible assumption) (Nat.le_of_ble_eq_true rfl) | omega | (simp only [List.length_take, List.length_drop, List.length_append, List.length_cons, List.length_nil]; omega)); (case zqhn3 => first | with_reducible assumption | exact Nat.le_trans (by with_reducible assumption) (Nat.le_of_ble_eq_true rfl) | omega | (simp only [List.length_take, List.length_drop, List.length_append, List.length_cons, List.length_nil]; omega)); (case zqw0 => first | with_reducible assumption | omega | (simp only [List.length_take, List.length_drop, List.length_append, List.length_cons, List.length_nil]; omega)); (case zqw1 => first | with_reducible assumption | omega | (simp only [List.length_take, List.length_drop, List.length_append, List.length_cons, List.length_nil]; omega)); (case zqr1 => with_reducible assumption); (case zqr2 => with_reducible assumption); (case zqr3 => with_reducible assumption); (case zqge => first | with_reducible assumption | (intro _; omega) | (intro hb0; cases hb0))); intro _ _ _ _ _ _ _ _ _ _ zhP; have _ := zhP.1; have _ := zhP.2.1; have _ := zhP.2.2; clear zhP; clear kFq kNq) | (refine goOn ?_; k_here; (with_reducible show wpAny _ _ (PySem.call (Value.ref 102) _) _ _ _); (with_reducible rename Fr _ _ _ _ => kFq); (with_reducible rename News _ _ _ _ => kNq); k_dflt (refine' useList (c_put_together ⟨?zqgx, ?zqgt⟩ kFq.keep ?zqhl ?zqhl2 ?zqhl3 ?zqhi ?zqhi2 ?zqhi3 ?zqhn ?zqhn2 ?zqhn3 ?zqs0 ?zqs1 ?zqw0 ?zqw1 ?zqr1 ?zqr2 ?zqr3) kFq kNq rfl (by first | exact Nat.le_of_ble_eq_true rfl | (dsimp only [Ar]; omega)) (by first | exact Nat.le_of_ble_eq_true rfl | (dsimp only [Ar]; omega)) ?_; (case zqgx => with_reducible assumption); (case zqgt => with_reducible assumption); (case zqhl => first | exact Fr.lst kFq (by with_reducible assumption) | exact News.isList kNq (by k_mem)); (case zqhl2 => first | exact Fr.lst kFq (by with_reducible assumption) | exact News.isList kNq (by k_mem)); (case zqhl3 => first | exact Fr.lst kFq (by with_reducible assumption) | exact News.isList kNq (by k_mem)); (case zqhi => with_reducible assumption); (case zqhi2 => with_reducible assumption); (case zqhi3 => with_reducible assumption); (case zqhn => first | with_reducible assumption | exact Nat.le_trans (by with_reducible assumption) (Nat.le_of_ble_eq_true rfl) | exact le_max3 (by with_reducible assumption) (by with_reducible assumption) (by with_reducible assumption) (by with_reducible assumption) rfl | omega | (simp only [List.length_take, List.length_drop, List.length_append, List.length_cons, List.length_nil]; omega)); (case zqhn2 => first | with_reducible assumption | exact Nat.le_trans (by with_reducible assumption) (Nat.le_of_ble_eq_true rfl) | exact le_max3 (by with_reducible assumption) (by with_reducible assumption) (by with_reducible assumption) (by with_reducible assumption) rfl | omega | (simp only [List.length_take, List.length_drop, List.length_append, List.length_cons, List.length_nil]; omega)); (case zqhn3 => first | with_reducible assumption | exact Nat.le_trans (by with_reducible assumption) (Nat.le_of_ble_eq_true rfl) | exact le_max3 (by with_reducible assumption) (by with_reducible assumption) (by with_reducible assumption) (by with_reducible assumption) rfl | omega | (simp only [List.length_take, List.length_drop, List.length_append, List.length_cons, List.length_nil]; omega)); (case zqs0 => first | with_reducible assumption | omega | (simp only [List.length_take, List.length_drop, List.length_append, List.length_cons, List.length_nil]; omega)); (case zqs1 => first | with_reducible assumption | omega | (simp only [List.length_take, List.length_drop, List.length_append, List.length_cons, List.length_nil]; omega)); (case zqw0 => first | with_reducible assumption | omega | (simp only [List.length_take, List.length_drop, List.length_append, List.length_cons, List.length_nil]; omega)); (case zqw1 => first | with_reducible assumption | omega | (simp only [List.length_take, List.length_drop, List.length_append, List.length_cons, List.length_nil]; omega)); (case zqr1 => with_reducible assumption); (case zqr2 => with_reducible assumption); (case zqr3 => with_reducible assumption)); intro _ _ _ _ _ _ _ _ _ _ zhP; have _ := zhP.1; have _ := zhP.2.1; have _ := zhP.2.2; clear zhP; clear kFq kNq) | (refine goOn ?_; k_here; (with_reducible show wpAny _ _ (PySem.call (Value.ref 123) _) _ _ _); (with_reducible rename Fr _ _ _ _ => kFq); (with_reducible rename News _ _ _ _ => kNq); (with_reducible rename Heap.StaysIn _ _ => kB); (with_reducible rename KeepsAll _ _ => kK); (with_reducible rename SK _ _ _ _ _ _ _ _ _ _ _ => kC); k_dflt (refine' useSqr (kC _ _ _ _ _ _ _ _ _ (stays_fr kFq kB) (kK.fr kFq) ?zqhT ?zqht ?zqtk ?zqhl ?zqne ?zqhi ?zqhn ?zqr1) kFq kNq ?zqU rfl (by first | exact Nat.le_of_ble_eq_true rfl | (dsimp only [Ar]; omega)) (by first | exact Nat.le_of_ble_eq_true rfl | (dsimp only [Ar]; omega)) ?_; (case zqhT => exact (kNq (_, _) (by k_mem)).1); (case zqht => with_reducible assumption); (case zqtk => first | with_reducible assumption | omega | (simp only [List.length_take, List.length_drop, List.length_append, List.length_cons, List.length_nil]; omega)); (case zqhl => first | exact Fr.lst kFq (by with_reducible assumption) | exact News.isList kNq (by k_mem)); (case zqne => k_ne); (case zqhi => with_reducible assumption); (case zqhn => first | with_reducible assumption | exact Nat.le_trans (by with_reducible assumption) (Nat.le_of_ble_eq_true rfl) | exact le_max2 (by with_reducible assumption) (by with_reducible assumption) (by with_reducible assumption) | omega | (simp only [List.length_take, List.length_drop, List.length_append, List.length_cons, List.length_nil]; omega)); (case zqr1 => with_reducible assumption); (case zqU => k_updF)); intro _ _ _ _ _ _ _ _ _ _ kNn; (try dsimp only [List.append] at kNn); revert kNn; intro _ _ _ _ _ _ _ _ _; clear kFq kNq) | (refine goOn ?_; k_here; (with_reducible show wpAny _ _ (PySem.call (Value.ref _) _) _ _ _); (with_reducible rename Fr _ _ _ _ => kFq); (with_reducible rename News _ _ _ _ => kNq); (with_reducible rename Heap.StaysIn _ _ => kB); (with_reducible rename KeepsAll _ _ => kK); (with_reducible rename SqrOk _ _ _ _ _ _ => kC); k_dflt (refine' useSqr (kC _ _ _ _ _ _ _ _ (stays_fr kFq kB) (kK.fr kFq) ?zqhT ?zqht ?zqtk ?zqhl ?zqne ?zqhi ?zqhn ?zqr1) kFq kNq ?zqU rfl (by first | exact Nat.le_of_ble_eq_true rfl | (dsimp only [Ar]; omega)) (by first | exact Nat.le_of_ble_eq_true rfl | (dsimp only [Ar]; omega)) ?_; (case zqhT => exact (kNq (_, _) (by k_mem)).1); (case zqht => with_reducible assumption); (case zqtk => first | with_reducible assumption | omega | (simp only [List.length_take, List.length_drop, List.length_append, List.length_cons, List.length_nil]; omega)); (case zqhl => first | exact Fr.lst kFq (by with_reducible assumption) | exact News.isList kNq (by k_mem)); (case zqne => k_ne); (case zqhi => with_reducible assumption); (case zqhn => first | with_reducible assumption | exact Nat.le_trans (by with_reducible assumption) (Nat.le_of_ble_eq_true rfl) | exact le_max2 (by with_reducible assumption) (by with_reducible assumption) (by with_reducible assumption) | omega | (simp only [List.length_take, List.length_drop, List.length_append, List.length_cons, List.length_nil]; omega)); (case zqr1 => with_reducible assumption); (case zqU => k_updF)); intro _ _ _ _ _ _ _ _ _ _ kNn; (try dsimp only [List.append] at kNn); revert kNn; intro _ _ _ _ _ _ _ _ _; clear kFq kNq) | (refine goOn ?_; k_dflt (refine' kmk_slice_ints ?zqF ?zqN ?zql ?zqp ?zqq ?zqi ?zqm rfl ?_ ?zqs ?zqt ?zqz; (case zqF => k_asm); (case zqN => k_asm); (case zql => first | exact Fr.lst (by assumption) (by assumption) | exact News.isList (by assumption) (by k_mem)); (case zqp => kmk_part); (case zqq => kmk_part); (case zqi => assumption); (case zqm => first | exact kmk_all (by assumption) | exact kmk_from (by assumption) (by first | assumption | omega) | exact kmk_upto (by assumption) (by first | assumption | omega) | exact kmk_run (by assumption) (by first | assumption | omega) (by first | assumption | omega)); (case zqs => with_unfolding_all rfl); (case zqt => kmk_pure); (case zqz => exact sz_ok (by assumption) (by omega))); intro _ _ _ _ _ zl1 _ zhC zhL; (try k_lt zl1); (try k_sweep); clear zhC zhL) | (refine goOn ?_; with_reducible rename Fr _ _ _ _ => kFq; with_reducible rename News _ _ _ _ => kNq; k_dflt (refine' appD kFq kNq ?zqo ?zqz ?_; (case zqo => first | exact offOne (by assumption) | exact offNil | assumption); (case zqz => first | assumption | omega)); intro _ _ _; clear kFq kNq) | fail); (try k_steps))
  rename val _ _ = val _ _ ^ 2 => hA3
  revert hA3
  rename val _ _ = val _ _ ^ 2 => hA2
  revert hA2
  rename val _ _ = val _ _ ^ 2 => hA1
  intro hA2 hA3
  rename _ ∨ _ => hAd
  have hA4 := hA3
  rw [kar_apart hAd] at hA4
  have hg1 := kar_ge (val_nonneg (by omega) hr1.1) (val_nonneg (by omega) hr2.1) hA4
  rw [← hA1, ← hA2] at hg1
  have hK1 := twice_le (sq_short hB1 hr1 (by assumption) hA1) hL1
  have hK2 := twice_le (sq_short hB1 hr2 (by assumption) hA2) hL2
  have hK3 := twice_le (sq_short hB1 (by assumption) (by assumption) hA3) (le_max2 (by assumption) hL1 hL2)
  k_steps
  repeat' ((first | (refine goOn ?_; k_here; (with_reducible show wpAny _ _ (PySem.call (Value.ref 81) _) _ _ _); (with_reducible rename Fr _ _ _ _ => kFq); (with_reducible rename News _ _ _ _ => kNq); k_dflt (refine' usePair (c_split ⟨?zqgx, ?zqgt⟩ kFq.keep ?zqhl ?zqhi ?zqhn ?zqs0 ?zqs1) kFq kNq rfl (by first | exact Nat.le_of_ble_eq_true rfl | (dsimp only [Ar]; omega)) (by first | exact Nat.le_of_ble_eq_true rfl | (dsimp only [Ar]; omega)) ?_; (case zqgx => with_reducible assumption); (case zqgt => with_reducible assumption); (case zqhl => first | exact Fr.lst kFq (by with_reducible assumption) | exact News.isList kNq (by k_mem)); (case zqhi => with_reducible assumption); (case zqhn => first | with_reducible assumption | exact Nat.le_trans (by with_reducible assumption) (Nat.le_of_ble_eq_true rfl) | omega | (simp only [List.length_take, List.length_drop, List.length_append, List.length_cons, List.length_nil]; omega)); (case zqs0 => first | with_reducible assumption | omega | (simp only [List.length_take, List.length_drop, List.length_append, List.length_cons, List.length_nil]; omega)); (case zqs1 => first | with_reducible assumption | omega | (simp only [List.length_take, List.length_drop, List.length_append, List.length_cons, List.length_nil]; omega))); intro _ _ _ _ _ _ _ _ _ _ _ _ _ _ _ _ _ _ _ zhP; have _ := zhP.1; have _ := zhP.2; clear zhP; clear kFq kNq) | (refine goOn ?_; k_here; (with_reducible show wpAny _ _ (PySem.call (Value.ref 95) _) _ _ _); (with_reducible rename Fr _ _ _ _ => kFq); (with_reducible rename News _ _ _ _ => kNq); k_dflt (refine' useBool (c_difference ⟨?zqgx, ?zqgt⟩ kFq.keep ?zqhl ?zqhl2 ?zqhi ?zqhi2 ?zqhn ?zqhn2 ?zqw0 ?zqw1 ?zqr1 ?zqr2) kFq kNq rfl (by first | exact Nat.le_of_ble_eq_true rfl | (dsimp only [Ar]; omega)) (by first | exact Nat.le_of_ble_eq_true rfl | (dsimp only [Ar]; omega)) ?_; (case zqgx => with_reducible assumption); (case zqgt => with_reducible assumption); (case zqhl => first | exact Fr.lst kFq (by with_reducible assumption) | exact News.isList kNq (by k_mem)); (case zqhl2 => first | exact Fr.lst kFq (by with_reducible assumption) | exact News.isList kNq (by k_mem)); (case zqhi => with_reducible assumption); (case zqhi2 => with_reducible assumption); (case zqhn => first | with_reducible assumption | exact Nat.le_trans (by with_reducible assumption) (Nat.le_of_ble_eq_true rfl) | omega | (simp only [List.length_take, List.length_drop, List.length_append, List.length_cons, List.length_nil]; omega)); (case zqhn2 => first | with_reducible assumption | exact Nat.le_trans (by with_reducible assumption) (Nat.le_of_ble_eq_true rfl) | omega | (simp only [List.length_take, List.length_drop, List.length_append, List.length_cons, List.length_nil]; omega)); (case zqw0 => first | with_reducible assumption | omega | (simp only [List.length_take, List.length_drop, List.length_append, List.length_cons, List.length_nil]; omega)); (case zqw1 => first | with_reducible assumption | omega | (simp only [List.length_take, List.length_drop, List.length_append, List.length_cons, List.length_nil]; omega)); (case zqr1 => with_reducible assumption); (case zqr2 => with_reducible assumption)); intro _ _ _ _ _ _ _ _ _ _ _ _ _ _ zhP; have _ := zhP.1; have _ := zhP.2.1; have _ := zhP.2.2; clear zhP; clear kFq kNq) | (refine goOn ?_; k_here; (with_reducible show wpAny _ _ (PySem.call (Value.ref 109) _) _ _ _); (with_reducible rename Fr _ _ _ _ => kFq); (with_reducible rename News _ _ _ _ => kNq); k_dflt (refine' useList (c_middle_of ⟨?zqgx, ?zqgt⟩ kFq.keep ?zqhl ?zqhl2 ?zqhl3 ?zqhi ?zqhi2 ?zqhi3 ?zqhn ?zqhn2 ?zqhn3 ?zqw0 ?zqw1 ?zqr1 ?zqr2 ?zqr3 ?zqge) kFq kNq rfl (by first | exact Nat.le_of_ble_eq_true rfl | (dsimp only [Ar]; omega)) (by first | exact Nat.le_of_ble_eq_true rfl | (dsimp only [Ar]; omega)) ?_; (case zqgx => with_reducible assumption); (case zqgt => with_reducible assumption); (case zqhl => first | exact Fr.lst kFq (by with_reducible assumption) | exact News.isList kNq (by k_mem)); (case zqhl2 => first | exact Fr.lst kFq (by with_reducible assumption) | exact News.isList kNq (by k_mem)); (case zqhl3 => first | exact Fr.lst kFq (by with_reducible assumption) | exact News.isList kNq (by k_mem)); (case zqhi => with_reducible assumption); (case zqhi2 => with_reducible assumption); (case zqhi3 => with_reducible assumption); (case zqhn => first | with_reducible assumption | exact Nat.le_trans (by with_reducible assumption) (Nat.le_of_ble_eq_true rfl) | omega | (simp only [List.length_take, List.length_drop, List.length_append, List.length_cons, List.length_nil]; omega)); (case zqhn2 => first | with_reducible assumption | exact Nat.le_trans (by with_reducible assumption) (Nat.le_of_ble_eq_true rfl) | omega | (simp only [List.length_take, List.length_drop, List.length_append, List.length_cons, List.length_nil]; omega)); (case zqhn3 => first | with_reducible assumption | exact Nat.le_trans (by with_reducible assumption) (Nat.le_of_ble_eq_true rfl) | omega | (simp only [List.length_take, List.length_drop, List.length_append, List.length_cons, List.length_nil]; omega)); (case zqw0 => first | with_reducible assumption | omega | (simp only [List.length_take, List.length_drop, List.length_append, List.length_cons, List.length_nil]; omega)); (case zqw1 => first | with_reducible assumption | omega | (simp only [List.length_take, List.length_drop, List.length_append, List.length_cons, List.length_nil]; omega)); (case zqr1 => with_reducible assumption); (case zqr2 => with_reducible assumption); (case zqr3 => with_reducible assumption); (case zqge => first | with_reducible assumption | (intro _; omega) | (intro hb0; cases hb0))); intro _ _ _ _ _ _ _ _ _ _ zhP; have _ := zhP.1; have _ := zhP.2.1; have _ := zhP.2.2; clear zhP; clear kFq kNq) | (refine goOn ?_; k_here; (with_reducible show wpAny _ _ (PySem.call (Value.ref 102) _) _ _ _); (with_reducible rename Fr _ _ _ _ => kFq); (with_reducible rename News _ _ _ _ => kNq); k_dflt (refine' useList (c_put_together ⟨?zqgx, ?zqgt⟩ kFq.keep ?zqhl ?zqhl2 ?zqhl3 ?zqhi ?zqhi2 ?zqhi3 ?zqhn ?zqhn2 ?zqhn3 ?zqs0 ?zqs1 ?zqw0 ?zqw1 ?zqr1 ?zqr2 ?zqr3) kFq kNq rfl (by first | exact Nat.le_of_ble_eq_true rfl | (dsimp only [Ar]; omega)) (by first | exact Nat.le_of_ble_eq_true rfl | (dsimp only [Ar]; omega)) ?_; (case zqgx => with_reducible assumption); (case zqgt => with_reducible assumption); (case zqhl => first | exact Fr.lst kFq (by with_reducible assumption) | exact News.isList kNq (by k_mem)); (case zqhl2 => first | exact Fr.lst kFq (by with_reducible assumption) | exact News.isList kNq (by k_mem)); (case zqhl3 => first | exact Fr.lst kFq (by with_reducible assumption) | exact News.isList kNq (by k_mem)); (case zqhi => with_reducible assumption); (case zqhi2 => with_reducible assumption); (case zqhi3 => with_reducible assumption); (case zqhn => first | with_reducible assumption | exact Nat.le_trans (by with_reducible assumption) (Nat.le_of_ble_eq_true rfl) | exact le_max3 (by with_reducible assumption) (by with_reducible assumption) (by with_reducible assumption) (by with_reducible assumption) rfl | omega | (simp only [List.length_take, List.length_drop, List.length_append, List.length_cons, List.length_nil]; omega)); (case zqhn2 => first | with_reducible assumption | exact Nat.le_trans (by with_reducible assumption) (Nat.le_of_ble_eq_true rfl) | exact le_max3 (by with_reducible assumption) (by with_reducible assumption) (by with_reducible assumption) (by with_reducible assumption) rfl | omega | (simp only [List.length_take, List.length_drop, List.length_append, List.length_cons, List.length_nil]; omega)); (case zqhn3 => first | with_reducible assumption | exact Nat.le_trans (by with_reducible assumption) (Nat.le_of_ble_eq_true rfl) | exact le_max3 (by with_reducible assumption) (by with_reducible assumption) (by with_reducible assumption) (by with_reducible assumption) rfl | omega | (simp only [List.length_take, List.length_drop, List.length_append, List.length_cons, List.length_nil]; omega)); (case zqs0 => first | with_reducible assumption | omega | (simp only [List.length_take, List.length_drop, List.length_append, List.length_cons, List.length_nil]; omega)); (case zqs1 => first | with_reducible assumption | omega | (simp only [List.length_take, List.length_drop, List.length_append, List.length_cons, List.length_nil]; omega)); (case zqw0 => first | with_reducible assumption | omega | (simp only [List.length_take, List.length_drop, List.length_append, List.length_cons, List.length_nil]; omega)); (case zqw1 => first | with_reducible assumption | omega | (simp only [List.length_take, List.length_drop, List.length_append, List.length_cons, List.length_nil]; omega)); (case zqr1 => with_reducible assumption); (case zqr2 => with_reducible assumption); (case zqr3 => with_reducible assumption)); intro _ _ _ _ _ _ _ _ _ _ zhP; have _ := zhP.1; have _ := zhP.2.1; have _ := zhP.2.2; clear zhP; clear kFq kNq) | (refine goOn ?_; k_here; (with_reducible show wpAny _ _ (PySem.call (Value.ref 123) _) _ _ _); (with_reducible rename Fr _ _ _ _ => kFq); (with_reducible rename News _ _ _ _ => kNq); (with_reducible rename Heap.StaysIn _ _ => kB); (with_reducible rename KeepsAll _ _ => kK); (with_reducible rename SK _ _ _ _ _ _ _ _ _ _ _ => kC); k_dflt (refine' useSqr (kC _ _ _ _ _ _ _ _ _ (stays_fr kFq kB) (kK.fr kFq) ?zqhT ?zqht ?zqtk ?zqhl ?zqne ?zqhi ?zqhn ?zqr1) kFq kNq ?zqU rfl (by first | exact Nat.le_of_ble_eq_true rfl | (dsimp only [Ar]; omega)) (by first | exact Nat.le_of_ble_eq_true rfl | (dsimp only [Ar]; omega)) ?_; (case zqhT => exact (kNq (_, _) (by k_mem)).1); (case zqht => with_reducible assumption); (case zqtk => first | with_reducible assumption | omega | (simp only [List.length_take, List.length_drop, List.length_append, List.length_cons, List.length_nil]; omega)); (case zqhl => first | exact Fr.lst kFq (by with_reducible assumption) | exact News.isList kNq (by k_mem)); (case zqne => k_ne); (case zqhi => with_reducible assumption); (case zqhn => first | with_reducible assumption | exact Nat.le_trans (by with_reducible assumption) (Nat.le_of_ble_eq_true rfl) | exact le_max2 (by with_reducible assumption) (by with_reducible assumption) (by with_reducible assumption) | omega | (simp only [List.length_take, List.length_drop, List.length_append, List.length_cons, List.length_nil]; omega)); (case zqr1 => with_reducible assumption); (case zqU => k_updF)); intro _ _ _ _ _ _ _ _ _ _ kNn; (try dsimp only [List.append] at kNn); revert kNn; intro _ _ _ _ _ _ _ _ _; clear kFq kNq) | (refine goOn ?_; k_here; (with_reducible show wpAny _ _ (PySem.call (Value.ref _) _) _ _ _); (with_reducible rename Fr _ _ _ _ => kFq); (with_reducible rename News _ _ _ _ => kNq); (with_reducible rename Heap.StaysIn _ _ => kB); (with_reducible rename KeepsAll _ _ => kK); (with_reducible rename SqrOk _ _ _ _ _ _ => kC); k_dflt (refine' useSqr (kC _ _ _ _ _ _ _ _ (stays_fr kFq kB) (kK.fr kFq) ?zqhT ?zqht ?zqtk ?zqhl ?zqne ?zqhi ?zqhn ?zqr1) kFq kNq ?zqU rfl (by first | exact Nat.le_of_ble_eq_true rfl | (dsimp only [Ar]; omega)) (by first | exact Nat.le_of_ble_eq_true rfl | (dsimp only [Ar]; omega)) ?_; (case zqhT => exact (kNq (_, _) (by k_mem)).1); (case zqht => with_reducible assumption); (case zqtk => first | with_reducible assumption | omega | (simp only [List.length_take, List.length_drop, List.length_append, List.length_cons, List.length_nil]; omega)); (case zqhl => first | exact Fr.lst kFq (by with_reducible assumption) | exact News.isList kNq (by k_mem)); (case zqne => k_ne); (case zqhi => with_reducible assumption); (case zqhn => first | with_reducible assumption | exact Nat.le_trans (by with_reducible assumption) (Nat.le_of_ble_eq_true rfl) | exact le_max2 (by with_reducible assumption) (by with_reducible assumption) (by with_reducible assumption) | omega | (simp only [List.length_take, List.length_drop, List.length_append, List.length_cons, List.length_nil]; omega)); (case zqr1 => with_reducible assumption); (case zqU => k_updF)); intro _ _ _ _ _ _ _ _ _ _ kNn; (try dsimp only [List.append] at kNn); revert kNn; intro _ _ _ _ _ _ _ _ _; clear kFq kNq) | (refine goOn ?_; k_dflt (refine' kmk_slice_ints ?zqF ?zqN ?zql ?zqp ?zqq ?zqi ?zqm rfl ?_ ?zqs ?zqt ?zqz; (case zqF => k_asm); (case zqN => k_asm); (case zql => first | exact Fr.lst (by assumption) (by assumption) | exact News.isList (by assumption) (by k_mem)); (case zqp => kmk_part); (case zqq => kmk_part); (case zqi => assumption); (case zqm => first | exact kmk_all (by assumption) | exact kmk_from (by assumption) (by first | assumption | omega) | exact kmk_upto (by assumption) (by first | assumption | omega) | exact kmk_run (by assumption) (by first | assumption | omega) (by first | assumption | omega)); (case zqs => with_unfolding_all rfl); (case zqt => kmk_pure); (case zqz => exact sz_ok (by assumption) (by omega))); intro _ _ _ _ _ zl1 _ zhC zhL; (try k_lt zl1); (try k_sweep); clear zhC zhL) | (refine goOn ?_; with_reducible rename Fr _ _ _ _ => kFq; with_reducible rename News _ _ _ _ => kNq; k_dflt (refine' appD kFq kNq ?zqo ?zqz ?_; (case zqo => first | exact offOne (by assumption) | exact offNil | assumption); (case zqz => first | assumption | omega)); intro _ _ _; clear kFq kNq) | fail); (try k_steps))
  unfold Stop
  rename Fr _ _ _ _ => F4
  rename News _ _ _ _ => N4
  rename AwayFrom _ _ => ne
  rename val _ _ = _ + _ * _ + _ * _ => hV
  rename val _ _ = ite _ _ _ => hVm
  rw [if_neg (by decide)] at hVm
  rename IntsAre _ (_ ++ _ ++ _ ++ _) => hTT
  rw [List.append_assoc, List.append_assoc] at hTT
  rename ∀ x, x ∈ _ → 0 ≤ x ∧ x < _ => m3
  revert m3
  rename ∀ x, x ∈ _ → 0 ≤ x ∧ x < _ => m2
  revert m2
  rename ∀ x, x ∈ _ → 0 ≤ x ∧ x < _ => m1
  intro m2 m3
  refine ⟨_, _, _, rfl, rfl, hkk F4, ⟨_, _, _, _, rfl, hidden_none hg (N4 _ (.head _)).2.2 (Ne.symm (ne.ne (by k_mem))), (N4 _ (.head _)).1, by assumption, by assumption, ?_⟩, _, _, _, (N4 (T, _) (by k_mem)).1, hTT, by simp only [List.length_append]; omega, by simp only [List.length_append]; omega, fun x hx => ?_⟩
  · rw [hV, hVm, hval, hA1, hA2, two_toNat, Int.pow_mul]
    exact kar_eq hA4
  · rcases List.mem_append.mp hx with hx | hx
    · exact m1 x hx
    rcases List.mem_append.mp hx with hx | hx
    · exact m2 x hx
    · exact m3 x hx
theorem sk_all {Ks : List (Addr × Obj)} {f T : Addr} {fo : Obj} {wv lv : Int} (G : Gd w p loose mean mg mb b) (hT0 : b.get? T = none) (hS : SqrOk w b Ks f T wv) (hKT : ∀ q ∈ Ks, q.1 ≠ T) (hfK : (f, fo) ∈ Ks) (hfo : IsFn fo)
    (hw0 : 1 ≤ wv) (hw1 : wv ≤ 9) (hl0 : 0 ≤ lv) (hl1 : lv ≤ 100) : SK w b Ks f T wv lv 960 3400 16 81 := by
  refine c_sk G hT0 hS hKT hfK hfo (by omega) (by omega) hw0 hw1 hl0 hl1 (by omega) (show 16 ≤ 2 * 8 by omega) (by omega) fun _ => ⟨?_, show 3 * 27 ≤ 81 by omega⟩
  refine c_sk G hT0 hS hKT hfK hfo (by omega) (by omega) hw0 hw1 hl0 hl1 (by omega) (show 8 ≤ 2 * 4 by omega) (by omega) fun _ => ⟨?_, show 3 * 9 ≤ 27 by omega⟩
  refine c_sk G hT0 hS hKT hfK hfo (by omega) (by omega) hw0 hw1 hl0 hl1 (by omega) (show 4 ≤ 2 * 2 by omega) (by omega) fun _ => ⟨?_, show 3 * 3 ≤ 9 by omega⟩
  refine c_sk G hT0 hS hKT hfK hfo (by omega) (by omega) hw0 hw1 hl0 hl1 (by omega) (show 2 ≤ 2 * 1 by omega) (by omega) fun _ => ⟨?_, show 3 * 1 ≤ 3 by omega⟩
  exact c_sk (n' := 1) (K := 1) G hT0 hS hKT hfK hfo (by omega) (by omega) hw0 hw1 hl0 hl1 (by omega) (by omega) (by omega) fun h => absurd h (by omega)
section
variable {M : Model} {A : Around} {E : Value → Shared → Prop} {s : Shared} {h₀ : Heap} {L a c P c0 : Addr} {m mg mb : Str → Option Value} {cn : Str} {cs : Scope} {ccd : Value} {cl : List (Str × Addr)} {news : List (Addr × Obj)} {g : Obj → List (Addr × Obj)}
  {p : Program} {loose : List Str} {mean : ExcName → Option Value} {name qual : Str} {params : Arguments} {body : List Stmt} {scope : Scope} {ps : Array Value} {pos : Pos} {firstLine : Nat} {clos : List (Str × Addr)} {o0 : Obj}
/-- a def in a def: its code is made, or stood in the table -/
theorem nest_any {Q : Value → Shared → Prop} (F : Fr h₀ L s.heap m) (N : News h₀ L s.heap news) (T : Top p loose mean mg mb h₀) (C : CodeHd h₀ c P) (hcd : ccd = .ref c) (U : UpdF P (tabObj ps) news g)
    (hps : ps = #[] ∨ (ps = #[rawInt pos.line, rawInt pos.col, .ref c0] ∧ (c0, o0) ∈ news ∧ c0 ≠ P ∧ CodeO o0 qual)) (hcl : closureFor scope (envX cn cs L a ccd cl) = pure clos)
    (h : ∀ f c' oc ctv doc h' tk, Fr h₀ L h' m → News h₀ L h' ((f, fnMade name qual params body scope clos doc ((mg "__name__").getD .none) c' ctv) :: (c', oc) :: g (tabObj #[rawInt pos.line, rawInt pos.col, .ref c'])) →
      CodeO oc qual → (ps = #[] ∧ h₀.get? c' = none ∧ (∀ q ∈ news, q.1 < c') ∨ ps ≠ #[] ∧ c' = c0) → (∀ q ∈ news, q.1 < f) → Q (.ref f) { s with heap := h', toks := tk }) :
    wpAny M A (makeFunction name qual params (.stmts body) scope (envX cn cs L a ccd cl) [] [] [] pos firstLine) Q E s := by
  rcases hps with rfl | ⟨hps, h0, n0, q0⟩
  · refine nest_K F N T C hcd U True.intro rfl hcl fun f c' oc vs t ctv doc h' tk F' N' d1 d2 l1 l2 => ?_
    rw [Array.empty_append] at N'
    exact h f c' oc ctv doc h' tk F' N' ⟨vs, t, d1, d2⟩ (.inl ⟨rfl, (N' _ (.tail _ (.head _))).2.2, l1⟩) fun q hq => Nat.lt_trans (l1 q hq) l2
  · subst hps
    have hg : g (tabObj #[rawInt pos.line, rawInt pos.col, .ref c0]) = news := by
      obtain ⟨pre, post, e, hg, _, _⟩ := U.split
      rw [hg, e]
    have hm : (P, tabObj #[rawInt pos.line, rawInt pos.col, .ref c0]) ∈ news := by
      obtain ⟨pre, post, e, _, _, _⟩ := U.split
      rw [e]; exact List.mem_append_right _ (.head _)
    refine nestHit_K (c' := c0) F N T C hcd hm (by simp [TriplesOk, rawInt]) (by simp [codeAmong, rawInt]) hcl fun f ctv doc h' tk F' N' l1 => ?_
    refine h f c0 o0 ctv doc h' tk F' (fun q hq => ?_) q0 (.inr ⟨by simp, rfl⟩) l1
    rcases List.mem_cons.mp hq with rfl | hq
    · exact N' _ (.head _)
    rcases List.mem_cons.mp hq with rfl | hq
    · exact N' _ (.tail _ h0)
    · rw [hg] at hq; exact N' _ (.tail _ hq)
end
/-- the state of a loop whose one name is bound to a new object a turn, beside one mutable object T that grows -/
inductive MSEnd (h₀ : Heap) (L T : Addr) (x fnd : Str) (m₀ : Str → Option Value) (J : Addr → Obj → Obj → List (Addr × Obj) → Prop) (own : List (Addr × Obj)) (s s' : Shared) : Prop
  | mk  (h' : Heap) (tk : Nat) (D : Addr) (oD : Obj) (oT : Obj) (tups : List (Addr × Obj)) (m' : Str → Option Value) (news' : List (Addr × Obj)) (hq0 : s' = { s with heap := h', toks := tk }) (hq1 : Fr h₀ L h' m') (hq2 : News h₀ L h' news') (hq3 : (D, oD) ∈ news') (hq4 : (T, oT) ∈ news') (hq5 : (∀ q ∈ own, q ∈ news')) (hq6 : (∀ q ∈ tups, q ∈ news')) (hq7 : (∀ q ∈ own, D ≠ q.1)) (hq8 : (∀ q ∈ own, ∀ z ∈ tups, z.1 ≠ q.1)) (hq9 : m' fnd = some (.ref D)) (hq10 : (∀ z, z ≠ x → z ≠ fnd → m' z = m₀ z)) (hq11 : J D oD oT tups) : MSEnd h₀ L T x fnd m₀ J own s s'
def MSPost (h₀ : Heap) (L T : Addr) (x fnd : Str) (m₀ : Str → Option Value) (J : Addr → Obj → Obj → List (Addr × Obj) → Prop) (own : List (Addr × Obj)) (s : Shared) (Q : Flow → Shared → Prop) (f : Flow) (s' : Shared) : Prop :=
  match f with
  | .ret v => Q (.ret v) s'
  | .brk => Q .next s'
  | _ => MSEnd h₀ L T x fnd m₀ J own s s'
section
variable {prog : Program} {w : World} {A : Around} {E : Value → Shared → Prop} {s : Shared} {env : Env} {h₀ : Heap} {x : Str} {body : List Stmt} {Q : Flow → Shared → Prop}
inductive MSInv (T : Addr) (x fnd : Str) (m₀ : Str → Option Value) (J : Addr → Obj → Obj → List (Addr × Obj) → Prop) (m : Str → Option Value) (nx : List (Addr × Obj)) : Prop
  | mk (D : Addr) (oD oT : Obj) (tups : List (Addr × Obj)) (hq0 : nx = (D, oD) :: (T, oT) :: tups) (hq1 : m fnd = some (.ref D)) (hq2 : ∀ z, z ≠ x → z ≠ fnd → m z = m₀ z) (hq3 : J D oD oT tups) : MSInv T x fnd m₀ J m nx
theorem loopMS {r T D0 : Addr} {c b₀ : Int} {t₀ u₀ v₀ : Tok} {n : Nat} {m₀ : Str → Option Value} {oD0 oT0 : Obj} (fnd : Str) (hxf : fnd ≠ x) (J : Nat → Addr → Obj → Obj → List (Addr × Obj) → Prop)
    (hJT : ∀ {i D oD oT tups}, J i D oD oT tups → D ≠ T ∧ ∀ q ∈ tups, q.1 ≠ T)
    (hh : A.handled = none) (hr : IsRange s.heap r 0 b₀ c t₀ u₀ v₀) (hsmall : Builtin.Range.small 0 b₀ c = true) (hn : Builtin.Range.rangeSize 0 b₀ c = (n : Int)) (F : Fr h₀ env.locals s.heap m₀) (N : News h₀ env.locals s.heap [(D0, oD0), (T, oT0)])
    (hk : m₀ fnd = some (.ref D0)) (hJ : J 0 D0 oD0 oT0 [])
    (turn : ∀ (i : Nat) D oD oT tups t h tk tl own, i < n → J i D oD oT tups → (∀ q ∈ own, q ∈ tl) → (∀ q ∈ tups, q ∈ tl) → (∀ q ∈ own, ∀ z ∈ tups, z.1 ≠ q.1) → AwayFrom T ((D, oD) :: tl) →
      Fr h₀ env.locals h (fun z => if z = x then some (.int ((i : Int) * c) t) else if z = fnd then some (.ref D) else m₀ z) → News h₀ env.locals h ((T, oT) :: (D, oD) :: tl) →
      wpAny (model prog w) A (execs body env) (MSPost h₀ env.locals T x fnd m₀ (J (i + 1)) own { s with heap := h, toks := tk } Q) E { s with heap := h, toks := tk })
    (done : ∀ D oD oT tups (u : Str → Option Value) h tk, J n D oD oT tups → Fr h₀ env.locals h (fun z => if z = x then u z else if z = fnd then some (.ref D) else m₀ z) → News h₀ env.locals h ((D, oD) :: (T, oT) :: tups) →
      Q .next { s with heap := h, toks := tk }) :
    wpAny (model prog w) A (pyIter (.ref r)) (fun it s₂ => LoopAtV prog w A h₀ env x body Q E it s₂) E s := by
  refine wpAny_pyIter_range hr hsmall ?_
  have W : Walks prog w A s.heap.objs.size [s.heap.objs.size] [s.heap.objs.size] n (fun i v => i < n ∧ ∃ t, v = .int (0 + i * c) t)
      (fun i h => IsRangeIter h s.heap.objs.size (0 + (i : Nat) * c) ((n : Int) - (i : Nat)) c) := (Walks.range hh _ 0 c n).bound
  refine ⟨_, _, _, n, _, _, m₀, [(D0, oD0), (T, oT0)], fun i => MSInv T x fnd m₀ (J i),
    rfl, W, ?_, ?_, ?_, (by show IsRangeIter _ _ _ _ _; rw [hn]; simpa using Heap.get?_push_size _ rfl), F.push _, (fun p hp => ⟨Heap.get?_push_of_some _ (N p hp).1, (N p hp).2⟩), ⟨D0, oD0, oT0, [], rfl, hk, fun _ _ _ => rfl, hJ⟩, ?_, ?_⟩
  · intro hm
    exact absurd F.ns.lt ((List.mem_singleton.mp hm) ▸ Nat.lt_irrefl _)
  · intro b hb
    rw [List.mem_singleton.mp hb]
    exact next_is_new F
  · intro p hp hI
    exact absurd (Heap.lt_size (N p hp).1) ((List.mem_singleton.mp hI) ▸ Nat.lt_irrefl _)
  · rintro i v m₁ news₁ s₁ own ⟨hh', tk', rfl⟩ hin ⟨_, t, rfl⟩ ⟨D, oD, oT, tups, rfl, hf, hm, hj⟩ hnw hown hown2 hfp hst F₁ N₁
    obtain ⟨hDT, htT⟩ := hJT hj
    have hI : (s.heap.objs.size, _) ∈ own := hfp _ (List.mem_singleton.mpr rfl) (next_is_new F) _ hst
    have hTI : T ≠ s.heap.objs.size := fun e => hnw (T, oT) (.tail _ (.head _)) (List.mem_singleton.mpr e)
    have hoI : ∀ q ∈ own, q.1 = s.heap.objs.size := fun q hq => List.mem_singleton.mp (hown q hq)
    have hzI : ∀ q ∈ own, ∀ z ∈ tups, z.1 ≠ q.1 := fun q hq z hz e => hnw z (.tail _ (.tail _ hz)) (List.mem_singleton.mpr (e.trans (hoI q hq)))
    have hmm : (fun y => if y = x then some (Value.int (0 + (i : Int) * c) t) else m₁ y) = fun z => if z = x then some (.int ((i : Int) * c) t) else if z = fnd then some (.ref D) else m₀ z := by
      funext z
      rw [Int.zero_add]
      by_cases h1 : z = x
      · simp [h1]
      · rw [if_neg h1, if_neg h1]
        by_cases h2 : z = fnd
        · rw [if_pos h2, h2]; exact hf
        · rw [if_neg h2]; exact hm z h1 h2
    rw [hmm] at F₁
    refine wpAny_mono (turn i D oD oT tups t hh' tk' (own ++ tups) own hin hj (fun q hq => List.mem_append_left _ hq) (fun q hq => List.mem_append_right _ hq) hzI ?_ F₁ ?_) (fun f s₂ p => ?_) fun _ _ e => e
    · intro q hq
      rcases List.mem_cons.mp hq with rfl | hq
      · exact hDT
      rcases List.mem_append.mp hq with hq | hq
      · rw [hoI q hq]; exact hTI.symm
      · exact htT q hq
    · intro q hq
      rcases List.mem_cons.mp hq with rfl | hq
      · exact N₁ _ (List.mem_append_right _ (.tail _ (.head _)))
      rcases List.mem_cons.mp hq with rfl | hq
      · exact N₁ _ (List.mem_append_right _ (.head _))
      rcases List.mem_append.mp hq with hq | hq
      · exact N₁ _ (List.mem_append_left _ hq)
      · exact N₁ _ (List.mem_append_right _ (.tail _ (.tail _ hq)))
    have fin : MSEnd h₀ env.locals T x fnd m₀ (J (i + 1)) own { s with heap := hh', toks := tk' } s₂ → LoopStepU h₀ env.locals [s.heap.objs.size] own (MSInv T x fnd m₀ (J (i + 1))) { s with heap := hh', toks := tk' } .next s₂ := by
      rintro ⟨h', tk, D', oD', oT', tups', m', news', e, F', N', hD, hT, ho, ht, hDo, hto, hf', hm', hj'⟩
      refine ⟨rfl, h', tk, m', (D', oD') :: (T, oT') :: tups', e, F', fun p hp => ?_, fun p hp hq => ?_, D', oD', oT', tups', rfl, hf', hm', hj'⟩
      · rcases List.mem_append.mp hp with hp | hp
        · exact N' _ (ho _ hp)
        rcases List.mem_cons.mp hp with rfl | hp
        · exact N' _ hD
        rcases List.mem_cons.mp hp with rfl | hp
        · exact N' _ hT
        · exact N' _ (ht _ hp)
      · have hq := List.mem_singleton.mp hq
        rcases List.mem_cons.mp hp with rfl | hp
        · exact hDo _ hI hq
        rcases List.mem_cons.mp hp with rfl | hp
        · exact hTI hq
        · exact hto _ hI _ hp hq
    cases f with
    | ret v => exact .ret p
    | brk => exact .brk p
    | next => exact .next (fin p)
    | cont => exact .cont (fin p)
  · rintro h' tk m' news' F' N' _ ⟨D, oD, oT, tups, rfl, hf, hm, hj⟩
    refine done D oD oT tups m' h' tk hj ?_ N'
    have hmm : m' = fun z => if z = x then m' z else if z = fnd then some (.ref D) else m₀ z := by
      funext z
      by_cases h1 : z = x
      · simp [h1]
      · rw [if_neg h1]
        by_cases h2 : z = fnd
        · rw [if_pos h2, h2]; exact hf
        · rw [if_neg h2]; exact hm z h1 h2
    rw [← hmm]; exact F'
end
/-- a loop over a tuple whose turns may fill the table of a maker of closures -/
inductive TPEnd (h₀ : Heap) (L tab I : Addr) (x : Str) (stored : List Str) (m₀ : Str → Option Value) (keep own : List (Addr × Obj)) (J : Array Value → List (Addr × Obj) → Prop) (s s' : Shared) : Prop
  | mk  (h' : Heap) (tk : Nat) (m' : Str → Option Value) (news' : List (Addr × Obj)) (ps : Array Value) (hx : List (Addr × Obj)) (hq0 : s' = { s with heap := h', toks := tk }) (hq1 : Fr h₀ L h' m') (hq2 : News h₀ L h' news') (hq3 : (tab, tabObj ps) ∈ news') (hq4 : (∀ q ∈ keep, q ∈ news')) (hq5 : (∀ q ∈ own, q ∈ news')) (hq6 : (∀ q ∈ hx, q ∈ news')) (hq7 : (∀ z ∈ hx, z.1 ≠ I)) (hq8 : (∀ z, z ≠ x → stored.contains z = false → m' z = m₀ z)) (hq9 : J ps hx) : TPEnd h₀ L tab I x stored m₀ keep own J s s'
def TPPost (h₀ : Heap) (L tab I : Addr) (x : Str) (stored : List Str) (m₀ : Str → Option Value) (keep own : List (Addr × Obj)) (J : Array Value → List (Addr × Obj) → Prop) (s : Shared) (Q : Flow → Shared → Prop) (f : Flow) (s' : Shared) : Prop :=
  match f with
  | .ret v => Q (.ret v) s'
  | .brk => Q .next s'
  | _ => TPEnd h₀ L tab I x stored m₀ keep own J s s'
section
variable {prog : Program} {w : World} {A : Around} {E : Value → Shared → Prop} {s : Shared} {env : Env} {h₀ : Heap} {x : Str} {body : List Stmt} {Q : Flow → Shared → Prop}
inductive TPInv (tab : Addr) (x : Str) (stored : List Str) (m₀ : Str → Option Value) (keep : List (Addr × Obj)) (J : Array Value → List (Addr × Obj) → Prop) (m : Str → Option Value) (nx : List (Addr × Obj)) : Prop
  | mk (ps : Array Value) (hx : List (Addr × Obj)) (hq0 : nx = (tab, tabObj ps) :: (keep ++ hx)) (hq1 : ∀ z, z ≠ x → stored.contains z = false → m z = m₀ z) (hq2 : J ps hx) : TPInv tab x stored m₀ keep J m nx
theorem loopTup {tp tab : Addr} {ot : Obj} {items : Array Value} {m₀ : Str → Option Value} {ps0 : Array Value} (keep : List (Addr × Obj)) (stored : List Str) (J : Nat → Array Value → List (Addr × Obj) → Prop)
    (hJ0 : ∀ {i ps hx}, J i ps hx → ∀ q ∈ hx, q.1 ≠ tab) (hh : A.handled = none) (hot : ot.cls = .type "tuple" ∧ ∃ n, ot.data = .seq items n) (F : Fr h₀ env.locals s.heap m₀) (N : News h₀ env.locals s.heap ((tp, ot) :: (tab, tabObj ps0) :: keep)) (htt : tp ≠ tab) (hJ : J 0 ps0 [])
    (turn : ∀ (i : Nat) v ps hx tl own I oI (u : Str → Option Value) h tk, items[i]? = some v → J i ps hx → (∀ q ∈ own, q ∈ tl) → (∀ q ∈ hx, q ∈ tl) → (I, oI) ∈ tl → (∀ z ∈ hx, z.1 ≠ I) → (∀ q ∈ tl, q.1 ≠ tab) →
      Fr h₀ env.locals h (fun z => if z = x then some v else if stored.contains z then u z else m₀ z) → News h₀ env.locals h ((tab, tabObj ps) :: (keep ++ tl)) →
      wpAny (model prog w) A (execs body env) (TPPost h₀ env.locals tab I x stored m₀ keep own (J (i + 1)) { s with heap := h, toks := tk } Q) E { s with heap := h, toks := tk })
    (done : ∀ ps hx (u : Str → Option Value) h tk, J items.size ps hx → Fr h₀ env.locals h (fun z => if z = x then u z else if stored.contains z then u z else m₀ z) → News h₀ env.locals h ((tab, tabObj ps) :: (keep ++ hx)) →
      Q .next { s with heap := h, toks := tk }) :
    wpAny (model prog w) A (pyIter (.ref tp)) (fun it s₂ => LoopAtV prog w A h₀ env x body Q E it s₂) E s := by
  have htp := N (tp, ot) (.head _)
  have hts : s.heap.IsTuple tp items := ⟨ot, htp.1, hot⟩
  have hne : tp ≠ s.heap.objs.size := Nat.ne_of_lt (Heap.lt_size htp.1)
  refine wpAny_pyIter_tuple hts ?_
  have W := Walks.tuple (prog := prog) (w := w) hh s.heap.objs.size tp hne items
  refine ⟨_, _, _, items.size, _, _, m₀, (tab, tabObj ps0) :: keep, fun i => TPInv tab x stored m₀ keep (J i),
    rfl, W, ?_, ?_, ?_, ⟨⟨_, Heap.get?_push_size _ rfl, rfl, rfl⟩, ⟨ot, Heap.get?_push_of_some _ htp.1, hot⟩⟩, F.push _, (fun p hp => ⟨Heap.get?_push_of_some _ (N p (.tail _ hp)).1, (N p (.tail _ hp)).2⟩), ⟨ps0, [], by rw [List.append_nil], fun _ _ _ => rfl, hJ⟩, ?_, ?_⟩
  · intro hm
    rcases List.mem_cons.mp hm with e | hm
    · exact absurd F.ns.lt (e ▸ Nat.lt_irrefl _)
    · exact htp.2.1 (List.mem_singleton.mp hm).symm
  · intro b hb
    rw [List.mem_singleton.mp hb]
    exact next_is_new F
  · intro p hp hI
    exact absurd (Heap.lt_size (N p (.tail _ hp)).1) ((List.mem_singleton.mp hI) ▸ Nat.lt_irrefl _)
  · rintro i v m₁ news₁ s₁ own ⟨hh', tk', rfl⟩ hin hv ⟨ps, hx, rfl, hm, hj⟩ hnw hown hown2 hfp hst F₁ N₁
    obtain ⟨oI, hoI, _⟩ := hst.1
    have hI : (s.heap.objs.size, oI) ∈ own := hfp _ (.head _) (next_is_new F) _ hoI
    have hxI : ∀ z ∈ hx, z.1 ≠ s.heap.objs.size := fun z hz e => hnw z (.tail _ (List.mem_append_right _ hz)) (List.mem_singleton.mpr e)
    have hmm : (fun y => if y = x then some v else m₁ y) = fun z => if z = x then some v else if stored.contains z then m₁ z else m₀ z := by
      funext z
      by_cases h1 : z = x
      · simp [h1]
      · rw [if_neg h1, if_neg h1]
        by_cases h2 : stored.contains z = true
        · rw [if_pos h2]
        · rw [if_neg h2]; exact hm z h1 (by simpa using h2)
    rw [hmm] at F₁
    refine wpAny_mono (turn i v ps hx (hx ++ own) own _ oI m₁ hh' tk' hv hj (fun q hq => List.mem_append_right _ hq) (fun q hq => List.mem_append_left _ hq) (List.mem_append_right _ hI) hxI (fun q hq => ?_) F₁ (fun q hq => ?_)) (fun f s₂ p => ?_) fun _ _ e => e
    · rcases List.mem_append.mp hq with hq | hq
      · exact hJ0 hj q hq
      · rcases List.mem_cons.mp (hown q hq) with e | e
        · exact fun e2 => hnw (tab, tabObj ps) (.head _) (List.mem_singleton.mpr (e2.symm.trans e))
        · rw [List.mem_singleton.mp e]; exact htt
    · rcases List.mem_cons.mp hq with rfl | hq
      · exact N₁ _ (List.mem_append_right _ (.head _))
      rcases List.mem_append.mp hq with hq | hq
      · exact N₁ _ (List.mem_append_right _ (.tail _ (List.mem_append_left _ hq)))
      rcases List.mem_append.mp hq with hq | hq
      · exact N₁ _ (List.mem_append_right _ (.tail _ (List.mem_append_right _ hq)))
      · exact N₁ _ (List.mem_append_left _ hq)
    have fin : TPEnd h₀ env.locals tab s.heap.objs.size x stored m₀ keep own (J (i + 1)) { s with heap := hh', toks := tk' } s₂ → LoopStepU h₀ env.locals [s.heap.objs.size] own (TPInv tab x stored m₀ keep (J (i + 1))) { s with heap := hh', toks := tk' } .next s₂ := by
      rintro ⟨h', tk, m', news', ps', hx', e, F', N', ht, hk, ho, hxx, hxI', hm', hj'⟩
      refine ⟨rfl, h', tk, m', (tab, tabObj ps') :: (keep ++ hx'), e, F', fun p hp => ?_, fun p hp hq => ?_, ps', hx', rfl, hm', hj'⟩
      · rcases List.mem_append.mp hp with hp | hp
        · exact N' _ (ho _ hp)
        rcases List.mem_cons.mp hp with rfl | hp
        · exact N' _ ht
        rcases List.mem_append.mp hp with hp | hp
        · exact N' _ (hk _ hp)
        · exact N' _ (hxx _ hp)
      · rcases List.mem_cons.mp hp with rfl | hp
        · exact hnw (tab, tabObj ps) (.head _) hq
        rcases List.mem_append.mp hp with hp | hp
        · exact hnw p (.tail _ (List.mem_append_left _ hp)) hq
        · exact hxI' _ hp (List.mem_singleton.mp hq)
    cases f with
    | ret v => exact .ret p
    | brk => exact .brk p
    | next => exact .next (fin p)
    | cont => exact .cont (fin p)
  · rintro h' tk m' news' F' N' _ ⟨ps, hx, rfl, hm, hj⟩
    refine done ps hx m' h' tk hj ?_ N'
    have hmm : m' = fun z => if z = x then m' z else if stored.contains z then m' z else m₀ z := by
      funext z
      by_cases h1 : z = x
      · simp [h1]
      · rw [if_neg h1]
        by_cases h2 : stored.contains z = true
        · rw [if_pos h2]
        · rw [if_neg h2]; exact hm z h1 (by simpa using h2)
    rw [← hmm]; exact F'
end
section
variable {prog : Program} {w : World} {A : Around} {E : Value → Shared → Prop} {s : Shared} {env : Env}
/-- a list comprehension whose one test lets nothing through -/
structure NoneSrc (prog : Program) (w : World) (A : Around) (env : Env) (cnd : PySem.Expr) (x : Str) (scope : Scope) (cl : List (Str × Addr)) (Q : Value → Shared → Prop) (l : Addr) (items : Array Value) (s₁ : Shared) : Prop where
  list : s₁.heap.IsList l items
  size : items.size ≤ 10000
  tests : ∀ (i : Nat) v C (s₃ : Shared) m₂ (E' : Value → Shared → Prop), items[i]? = some v → s₁.heap.get? C = none → s₃.heap.Ns C m₂ → m₂ x = some v → (∀ c o, s₁.heap.get? c = some o → s₃.heap.get? c = some o) →
    wpAny (model prog w) A (isTrue cnd (compEnvC scope cl C env) (eval cnd (compEnvC scope cl C env))) (fun ok s₄ => ok = false ∧ Keeps s₃ s₄) E' s₃
  done : ∀ D n h' tk, s₁.heap.get? D = none → h'.get? D = some (listOf (List.toArray []) n) → (∀ c o, s₁.heap.get? c = some o → h'.get? c = some o) → Q (.ref D) { s₁ with heap := h', toks := tk }
inductive NoneAt (prog : Program) (w : World) (A : Around) (env : Env) (cnd : PySem.Expr) (x : Str) (scope : Scope) (cl : List (Str × Addr)) (Q : Value → Shared → Prop) (xv : Value) (s₁ : Shared) : Prop
  | mk  (l : Addr) (items : Array Value) (hq0 : xv = .ref l) (hq1 : NoneSrc prog w A env cnd x scope cl Q l items s₁) : NoneAt prog w A env cnd x scope cl Q xv s₁
theorem lc_none {elt iter cnd : PySem.Expr} {x : Str} {px pos : Pos} {scope : Scope} {cl : List (Str × Addr)} {Q : Value → Shared → Prop} (hh : A.handled = none)
    (hclos : closureFor scope env = pure cl) (hcell : ∀ y ∈ scope.names, y.2 ≠ .cell) (hkind : scope.kind = .function)
    (hnames : ∀ y ∈ scope.names, y.2 = .local → scope.names.lookup y.1 = some .local) (hx : scope.names.lookup x = some .local)
    (h : wpAny (model prog w) A (eval iter env) (NoneAt prog w A env cnd x scope cl Q) E s)
    (hs : ∀ x, foldedSetIterable iter env x = pure x) :
    wpAny (model prog w) A (eval (.ListComp elt [⟨.Name x px, iter, [cnd], 0⟩] scope pos) env) Q E s := by
  refine wpAny_ListComp_free (fun _ => false) (fun _ _ => True) hclos hcell hkind hnames hx (wpAny_mono h (fun xv s₁ h₁ => ?_) fun _ _ z => z) hs
  obtain ⟨l, items, rfl, R⟩ := h₁
  obtain ⟨ol, hol, _⟩ := id R.list
  have hlt := Heap.lt_size hol
  have hne : l ≠ s₁.heap.objs.size := Nat.ne_of_lt hlt
  refine wpAny_pyIter_list R.list ?_
  have W := Walks.list (prog := prog) (w := w) hh s₁.heap.objs.size l hne items
  have fresh : ∀ c, s₁.heap.objs.size ≤ c → s₁.heap.get? c = none := fun c hc => by
    cases q : s₁.heap.get? c with
    | none => rfl
    | some o => exact absurd (Heap.lt_size q) (Nat.not_lt.mpr hc)
  have old : ∀ c o, s₁.heap.get? c = some o → c ∉ [s₁.heap.objs.size] := fun c o q z => absurd (Heap.lt_size q) (by rw [List.mem_singleton.mp z]; exact Nat.lt_irrefl _)
  have hline : sizeLine = 16777216 := rfl
  refine ⟨_, _, _, items.size, _, _, rfl, W, by have := R.size; omega, ⟨⟨_, Heap.get?_push_size _ rfl, rfl, rfl⟩, R.list.at fun o e => Heap.get?_push_of_some _ e⟩, ?_, ⟨?_, ?_⟩, ?_⟩
  · intro b hb
    rw [Heap.size_push]
    rcases List.mem_cons.mp hb with rfl | hb
    · exact Nat.lt_succ_self _
    · rw [List.mem_singleton.mp hb]; exact Nat.lt_succ_of_lt hlt
  · intro C i v s₃ m₃ E' hC hv hn hm hk _
    have hC' : s₁.heap.get? C = none := fresh C (by rw [Heap.size_push] at hC; exact Nat.le_of_succ_le hC)
    have hk' : ∀ c o, s₁.heap.get? c = some o → s₃.heap.get? c = some o := fun c o q => hk c o (old c o q) (Heap.get?_push_of_some _ q)
    refine wpAny_forIn_list _ (fun rest ok s' => (rest = [cnd] ∧ ok = true ∧ s' = s₃) ∨ (rest = [] ∧ ok = false ∧ Keeps s₃ s')) _ ?_ ?_ _ _ (.inl ⟨rfl, rfl, rfl⟩)
    · rintro c rest ok s' (⟨e, rfl, rfl⟩ | ⟨e, _⟩)
      · cases e
        rw [if_pos rfl]
        refine wpAny_bind (wpAny_mono (R.tests i v C _ m₃ E' hv hC' hn hm hk') (fun ok s₄ h₄ => wpAny_pure (.inr ⟨rfl, h₄⟩)) fun _ _ z => z)
      · cases e
    · rintro ok s' (⟨e, _⟩ | ⟨_, rfl, hk⟩)
      · cases e
      · exact ⟨rfl, hk⟩
  · intro C i v s₃ m₃ E' hC hv hp
    cases hp
  · intro D h' tk ys vs hD hl hpl hlen hP hF hk
    have hys : ys = #[] := by
      have : vs.filter (fun _ => false) = [] := by simp
      rw [this] at hF
      cases hy : ys.toList with
      | nil => exact Array.toList_inj.mp (by rw [hy])
      | cons a r => rw [hy] at hF; cases hF
    subst hys
    have hD' : s₁.heap.get? D = none := by
      cases q : s₁.heap.get? D with
      | none => rfl
      | some o => rw [Heap.get?_push_of_some _ q] at hD; cases hD
    obtain ⟨n, hpl⟩ := hpl
    exact R.done D _ h' tk hD' hpl fun c o q => hk c o (old c o q) (Heap.get?_push_of_some _ q)
end
/-- one statement first, then the rest from what it leaves -/
def CutPost (R : Shared → Prop) (f : Flow) (s : Shared) : Prop := f = .next ∧ R s
theorem execs_cut {M : Model} {A : Around} {E : Value → Shared → Prop} {s : Shared} {st : Stmt} {rest : List Stmt} {env : Env} {Q : Flow → Shared → Prop} (R : Shared → Prop)
    (h1 : wpAny M A (exec st env) (CutPost R) E s) (h2 : ∀ s', R s' → wpAny M A (execs rest env) Q E s') : wpAny M A (execs (st :: rest) env) Q E s := by
  refine wpAny_execs_cons (wpAny_mono h1 (fun f s' h => ?_) fun _ _ z => z)
  obtain ⟨rfl, h⟩ := h
  exact h2 s' h
inductive CutR (h₀ : Heap) (L : Addr) (m : Str → Option Value) (x : Str) (news : Array Value → List (Addr × Obj)) (s s' : Shared) : Prop
  | mk  (h' : Heap) (tk' : Nat) (u : Str → Option Value) (ps : Array Value) (hq0 : s' = { s with heap := h', toks := tk' }) (hq1 : Fr h₀ L h' (fun z => if z = x then u z else m z)) (hq2 : News h₀ L h' (news ps)) : CutR h₀ L m x news s s'
theorem execs_cutF {M : Model} {A : Around} {E : Value → Shared → Prop} {s : Shared} {st : Stmt} {rest : List Stmt} {env : Env} {Q : Flow → Shared → Prop} {h₀ : Heap} {L : Addr} {m : Str → Option Value} (x : Str) (news : Array Value → List (Addr × Obj)) (hFr : Fr h₀ L s.heap m)
    (h1 : wpAny M A (exec st env) (CutPost (CutR h₀ L m x news s)) E s)
    (h2 : ∀ (h' : Heap) (tk' : Nat) (u : Str → Option Value) (ps : Array Value), Fr h₀ L h' (fun z => if z = x then u z else m z) → News h₀ L h' (news ps) → wpAny M A (execs rest env) Q E { s with heap := h', toks := tk' }) : wpAny M A (execs (st :: rest) env) Q E s :=
  execs_cut _ h1 fun s' ⟨h', tk', u, ps, e, F, N⟩ => by rw [e]; exact h2 h' tk' u ps F N
theorem CutR.same {h₀ : Heap} {L : Addr} {m : Str → Option Value} {x : Str} {news : Array Value → List (Addr × Obj)} {s : Shared} {h' : Heap} {tk' : Nat} {ps : Array Value} (F : Fr h₀ L h' m) (N : News h₀ L h' (news ps)) : CutPost (CutR h₀ L m x news s) .next { s with heap := h', toks := tk' } :=
  ⟨rfl, h', tk', m, ps, rfl, by rw [show (fun z => if z = x then m z else m z) = m from funext fun z => by split <;> rfl]; exact F, N⟩
theorem CutR.one {h₀ : Heap} {L : Addr} {m : Str → Option Value} {x : Str} {v : Value} {news : Array Value → List (Addr × Obj)} {s : Shared} {h' : Heap} {tk' : Nat} {ps : Array Value} (F : Fr h₀ L h' (fun z => if z = x then some v else m z)) (N : News h₀ L h' (news ps)) : CutPost (CutR h₀ L m x news s) .next { s with heap := h', toks := tk' } :=
  ⟨rfl, h', tk', fun _ => some v, ps, rfl, F, N⟩
def NoPost (s₃ : Shared) (ok : Bool) (s₄ : Shared) : Prop := ok = false ∧ Keeps s₃ s₄
theorem noPost_of {s₃ : Shared} {h' : Heap} {tk : Nat} (h : ∀ b o, s₃.heap.get? b = some o → h'.get? b = some o) : NoPost s₃ false { s₃ with heap := h', toks := tk } := ⟨rfl, h', tk, rfl, h⟩
local macro_rules | `(tactic| walk_at "eval ListComp") => `(tactic| refine stopHere ?_)
local macro_rules | `(tactic| walk_at "call type:enumerate") => `(tactic| refine stopHere ?_)
local macro_rules | `(tactic| walk_at "EnSrc") => `(tactic| refine stopHere ?_)
set_option maxHeartbeats 8000000 in
theorem c_law_whole {l : Addr} {vs : List Value} {ns : List Int} {wv : Int} {tw : Tok} (G : Gd w p loose mean mg mb b) (hb : b.StaysIn s.heap) (hl : s.heap.IsList l vs.toArray) (hi : IntsAre vs ns) (hn : ns.length ≤ 60) (hw0 : 1 ≤ wv) (hw1 : wv ≤ 9) (hr : Limbs (2 ^ wv.toNat) ns) :
    codeAny (model PP w) (Ar 985 6000) (.call (.ref 147) ⟨[.ref l, .int wv tw], []⟩)
      (Done [] (IOut fun r => r = val (2 ^ wv.toNat) ns) s) s := by
  refine' enterC (binds := [(Str.ofString "row", .ref l), (Str.ofString "w", .int wv tw)]) G hb ?ho ?hcd ?hr ?hb ?hk ?hd ?_ ?c1 ?c2 ?c3
  case ho => k_is
  case hcd => k_is
  case hr => first | decide | assumption
  case hb => exact BindsTo.of_eq rfl
  case hk => exact rfl
  case hd => decide +kernel
  case c1 => rfl
  case c2 => rfl
  case c3 => rfl
  intro L h₁ tk₀ cells F' N' Y' X' T'
  try dsimp only
  k_fold
  k_cells Y'
  k_steps
  repeat' ((first | (refine goOn ?_; with_reducible rename Fr _ _ _ _ => kFq; k_dflt (refine' enumAt kFq ?zqhl ?_; (case zqhl => assumption)); intro _ _ _ _ _ _ _ _ _ _ _ _ _) | (refine goOn ?_; k_dflt (refine' kmk_slice_ints ?zqF ?zqN ?zql ?zqp ?zqq ?zqi ?zqm rfl ?_ ?zqs ?zqt ?zqz; (case zqF => k_asm); (case zqN => k_asm); (case zql => first | exact Fr.lst (by assumption) (by assumption) | exact News.isList (by assumption) (by k_mem)); (case zqp => kmk_part); (case zqq => kmk_part); (case zqi => assumption); (case zqm => first | exact kmk_all (by assumption) | exact kmk_from (by assumption) (by first | assumption | omega) | exact kmk_upto (by assumption) (by first | assumption | omega) | exact kmk_run (by assumption) (by first | assumption | omega) (by first | assumption | omega)); (case zqs => with_unfolding_all rfl); (case zqt => kmk_pure); (case zqz => exact sz_ok (by assumption) (by omega))); intro _ _ _ _ _ zl1 _ zhC zhL; (try k_lt zl1); (try k_sweep); clear zhC zhL) | (refine goOn ?_; with_reducible rename Fr _ _ _ _ => kFq; with_reducible rename News _ _ _ _ => kNq; k_dflt (refine' appD kFq kNq ?zqo ?zqz ?_; (case zqo => first | exact offOne (by assumption) | exact offNil | assumption); (case zqz => first | assumption | omega)); intro _ _ _; clear kFq kNq) | fail); (try k_steps))
  unfold Stop
  refine lc_enum (l := l) (vs := vs) (ns := ns) (fun i ms => ms.sum = val (2 ^ wv.toNat) (ns.take i)) rfl (by rfl) (by decide) (by rfl) (by decide) (by rfl) (by rfl) (by decide) hi (by omega) ?_ (by intro _; rfl)
  k_steps
  repeat' ((first | (refine goOn ?_; with_reducible rename Fr _ _ _ _ => kFq; k_dflt (refine' enumAt kFq ?zqhl ?_; (case zqhl => assumption)); intro _ _ _ _ _ _ _ _ _ _ _ _ _) | (refine goOn ?_; k_dflt (refine' kmk_slice_ints ?zqF ?zqN ?zql ?zqp ?zqq ?zqi ?zqm rfl ?_ ?zqs ?zqt ?zqz; (case zqF => k_asm); (case zqN => k_asm); (case zql => first | exact Fr.lst (by assumption) (by assumption) | exact News.isList (by assumption) (by k_mem)); (case zqp => kmk_part); (case zqq => kmk_part); (case zqi => assumption); (case zqm => first | exact kmk_all (by assumption) | exact kmk_from (by assumption) (by first | assumption | omega) | exact kmk_upto (by assumption) (by first | assumption | omega) | exact kmk_run (by assumption) (by first | assumption | omega) (by first | assumption | omega)); (case zqs => with_unfolding_all rfl); (case zqt => kmk_pure); (case zqz => exact sz_ok (by assumption) (by omega))); intro _ _ _ _ _ zl1 _ zhC zhL; (try k_lt zl1); (try k_sweep); clear zhC zhL) | (refine goOn ?_; with_reducible rename Fr _ _ _ _ => kFq; with_reducible rename News _ _ _ _ => kNq; k_dflt (refine' appD kFq kNq ?zqo ?zqz ?_; (case zqo => first | exact offOne (by assumption) | exact offNil | assumption); (case zqz => first | assumption | omega)); intro _ _ _; clear kFq kNq) | fail); (try k_steps))
  unfold Stop
  rename Fr _ _ _ _ => F1
  rename IsEnum _ _ _ _ _ => hE
  rename Heap.IsListIter _ _ _ _ => hI
  rename Kept _ _ _ => hk
  rename_i fr' no'
  have hcell := (N' _ (.head _)).1
  rename _ = Data.cell _ => hcd
  refine ⟨_, _, _, rfl, hE, hI, by assumption, by assumption, by assumption, by assumption, ?_, ?_, ?_⟩
  · rfl
  · intro i ms C h tk m₂ t t' E' hlt hP hCn hn ha hb' hk2
    have hx := hr.getD (show (0 : Int) < 2 ^ wv.toNat by have := base_gt hw0; omega) i
    have hx2 := base_le hw1
    have hc2 := hk2 _ _ (fr' _ _ hcell).1 (fr' _ _ hcell).2 (hk _ _ (fun z => nomatch z) hcell)
    have hi0 : (i : Int) < 60 := by omega
    have hwi0 : 0 ≤ wv * (i : Int) := Int.mul_nonneg (by omega) (by omega)
    have hwi1 : wv * (i : Int) ≤ 9 * 60 := Int.mul_le_mul (by omega) (by omega) (by omega) (by omega)
    refine wpAny_BinOp (nmNs hn (by rfl) hb' (by rfl) (by rfl) (wpAny_BinOp (wpAny_Constant_int (wpAny_BinOp (nmCell hc2 hcd (by rfl) (by rfl) (by rfl) (by rfl) (nmNs hn (by rfl) ha (by rfl) (by rfl) ?_))))))
    refine mul_int ?_ (IntMulOk.of_left (intBits_le_64 (by omega) (by omega)))
    refine pow_int_small hwi0 (by omega) (by decide) ?_
    refine mul_int ?_ (IntMulOk.of_left (intBits_le_64 (by omega) (by omega)))
    refine ⟨_, _, _, rfl, rfl, ?_⟩
    rw [List.sum_append, hP, val_take_succ, pow_place _ _ (by omega)]
    simp [Int.mul_comm]
  · intro D us ms h' tk hD hD' hI' hP hk2
    have k2 : Kept [_, _] _ h' := fun c o hc q => hk2 c o (fun z => hc (by rw [z]; exact .head _)) (fun z => hc (by rw [z]; exact .tail _ (.head _))) q
    have F2 := k2.fr F1 no'
    have N2 : News s.heap L h' [(D, listOf (List.toArray us) us.length)] := fun q hq => by
      rw [List.mem_singleton.mp hq]
      exact new_at F1 hD hD'
    rw [List.take_length] at hP
    k_steps
    repeat' ((first | (refine goOn ?_; with_reducible rename Fr _ _ _ _ => kFq; k_dflt (refine' enumAt kFq ?zqhl ?_; (case zqhl => assumption)); intro _ _ _ _ _ _ _ _ _ _ _ _ _) | (refine goOn ?_; k_dflt (refine' kmk_slice_ints ?zqF ?zqN ?zql ?zqp ?zqq ?zqi ?zqm rfl ?_ ?zqs ?zqt ?zqz; (case zqF => k_asm); (case zqN => k_asm); (case zql => first | exact Fr.lst (by assumption) (by assumption) | exact News.isList (by assumption) (by k_mem)); (case zqp => kmk_part); (case zqq => kmk_part); (case zqi => assumption); (case zqm => first | exact kmk_all (by assumption) | exact kmk_from (by assumption) (by first | assumption | omega) | exact kmk_upto (by assumption) (by first | assumption | omega) | exact kmk_run (by assumption) (by first | assumption | omega) (by first | assumption | omega)); (case zqs => with_unfolding_all rfl); (case zqt => kmk_pure); (case zqz => exact sz_ok (by assumption) (by omega))); intro _ _ _ _ _ zl1 _ zhC zhL; (try k_lt zl1); (try k_sweep); clear zhC zhL) | (refine goOn ?_; with_reducible rename Fr _ _ _ _ => kFq; with_reducible rename News _ _ _ _ => kNq; k_dflt (refine' appD kFq kNq ?zqo ?zqz ?_; (case zqo => first | exact offOne (by assumption) | exact offNil | assumption); (case zqz => first | assumption | omega)); intro _ _ _; clear kFq kNq) | fail); (try k_steps))
    unfold Stop
    rename Fr _ _ _ _ => F4
    exact done_int F4 hP
/-- what _law_square hands back -/
inductive CloOut (H : Heap) (tab lno : Nat) (qual : Str) (Ok : List (Addr × Obj) → Addr → Prop) (ps : Array Value) (c0 : Addr) (v : Value) (h : Heap) : Prop
  | mk  (f : Addr) (fo : Obj) (c' : Addr) (oc : Obj) (cw : Addr) (ow : Obj) (ct : Addr) (ot : Obj) (hq0 : v = .ref f) (hq1 : IsFn fo) (hq2 : H.get? f = none) (hq3 : H.get? cw = none) (hq4 : H.get? ct = none) (hq5 : (ps = #[] ∧ H.get? c' = none ∨ ps ≠ #[] ∧ c' = c0)) (hq6 : h.get? f = some fo) (hq7 : h.get? c' = some oc) (hq8 : h.get? cw = some ow) (hq9 : h.get? ct = some ot) (hq10 : h.get? tab = some (tabObj #[rawInt lno, rawInt (4 : Nat), .ref c'])) (hq11 : CodeO oc qual) (hq12 : Ok [(f, fo), (c', oc), (cw, ow), (ct, ot)] f) : CloOut H tab lno qual Ok ps c0 v h
theorem hps_tail {ps X : Array Value} {c0 P : Addr} {o0 : Obj} {hx : List (Addr × Obj)} {q : Str} {x y z : Addr × Obj} (h : ps = #[] ∨ (ps = X ∧ (c0, o0) ∈ hx ∧ c0 ≠ P ∧ CodeO o0 q)) : ps = #[] ∨ (ps = X ∧ (c0, o0) ∈ x :: y :: z :: hx ∧ c0 ≠ P ∧ CodeO o0 q) :=
  Or.imp_right (fun h => ⟨h.1, .tail _ (.tail _ (.tail _ h.2.1)), h.2.2⟩) h
local macro_rules | `(tactic| walk_at "exec FunctionDef") => `(tactic| refine stopHere ?_)
local macro_rules | `(tactic| walk_at "binaryOp Pow int int") => `(tactic| (k_dflt (refine' pow_int ?nn (bits_pow ?bb ?n0 ?n1) ?_; (case bb => with_reducible assumption); (case nn => omega); (case n0 => omega); (case n1 => omega))))
local macro_rules | `(tactic| walk_at "eval Name") => `(tactic| ((with_reducible rename News _ _ _ _ => kN); k_dflt (refine' nameX_F kN ?c ?m ?d ?_ ?a ?b ?bb ?nn; (case b => rfl); (case a => rfl); (case bb => decide); (case nn => decide); (case c => rfl); (case m => k_mem); (case d => with_reducible assumption))))
set_option maxHeartbeats 8000000 in
theorem c_law_square {T c0 : Addr} {oT o0 : Obj} {hx : List (Addr × Obj)} {ps : Array Value} {wv : Int} {tw : Tok} (G : Gd w p loose mean mg mb b) (hb : b.StaysIn s.heap) (hP : s.heap.get? 156 = some (tabObj ps)) (hPb : b.get? 156 = none)
    (hps : ps = #[] ∨ (ps = #[rawInt (103 : Nat), rawInt (4 : Nat), .ref c0] ∧ (c0, o0) ∈ hx ∧ CodeO o0 (Str.ofString "_law_square.<locals>.given"))) (hhx : ∀ q ∈ hx, (s.heap.get? q.1 = some q.2 ∧ b.get? q.1 = none) ∧ q.1 ≠ 156)
    (hTs : s.heap.get? T = some oT) (hTb : b.get? T = none) (hw0 : 1 ≤ wv) (hw1 : wv ≤ 9) :
    codeAny (model PP w) (Ar 980 5000) (.call (.ref 161) ⟨[.int wv tw, .ref T], []⟩)
      (Done [156] (CloOut s.heap 156 103 (Str.ofString "_law_square.<locals>.given") (fun Ks f => SqrOk w b Ks f T wv) ps c0) s) s := by
  refine' enterCH (binds := [(Str.ofString "w", .int wv tw), (Str.ofString "told", .ref T)]) G hb ((156, tabObj ps) :: hx) ?hh ?ho ?hcd ?hr ?hb ?hk ?hd ?_ ?c1 ?c2 ?c3
  case ho => k_is
  case hcd => k_is
  case hr => first | decide | assumption
  case hb => exact BindsTo.of_eq rfl
  case hk => exact rfl
  case hd => decide +kernel
  case c1 => rfl
  case c2 => rfl
  case c3 => rfl
  case hh => exact fun q hq => (List.mem_cons.mp hq).elim (fun e => by rw [e]; exact ⟨hP, hPb⟩) fun hq => (hhx q hq).1
  intro g L h₁ tk₀ cells hg F' N' Y' X' T' hlt'
  try dsimp only
  k_fold
  k_cells Y'
  simp only [List.cons_append, List.nil_append] at N'
  have hC : CodeHd g 160 156 := codeHd_of_K X' (by kernel_rfl)
  have l0 : @LT.lt Nat _ 156 L := hlt' _ (.head _)
  have hx0 : ∀ q ∈ hx, q.1 ≠ 156 := fun q hq => (hhx q hq).2
  have hps' : ps = #[] ∨ (ps = #[rawInt (103 : Nat), rawInt (4 : Nat), .ref c0] ∧ (c0, o0) ∈ hx ∧ c0 ≠ 156 ∧ CodeO o0 (Str.ofString "_law_square.<locals>.given")) := by
    rcases hps with hps | ⟨hps, hc0, hq0⟩
    · exact .inl hps
    · exact .inr ⟨hps, hc0, hx0 _ hc0, hq0⟩
  clear hps
  k_steps
  repeat' ((first | (refine goOn ?_; k_here; (with_reducible show wpAny _ _ (PySem.call (Value.ref 142) _) _ _ _); (with_reducible rename Fr _ _ _ _ => kFq); (with_reducible rename News _ _ _ _ => kNq); k_dflt (refine' useList (c_law_row ⟨?zqgx, ?zqgt⟩ kFq.keep ?zqw0 ?zqw1 ?zqn0 ?zqn1) kFq kNq rfl (by first | exact Nat.le_of_ble_eq_true rfl | (dsimp only [Ar]; omega)) (by first | exact Nat.le_of_ble_eq_true rfl | (dsimp only [Ar]; omega)) ?_; (case zqgx => with_reducible assumption); (case zqgt => with_reducible assumption); (case zqw0 => first | with_reducible assumption | omega); (case zqw1 => first | with_reducible assumption | omega); (case zqn0 => first | with_reducible assumption | omega); (case zqn1 => first | with_reducible assumption | omega)); intro _ _ _ _ _ _ _ _ _ _ zhP; have _ := zhP.1; have _ := zhP.2; clear zhP; clear kFq kNq) | (refine goOn ?_; k_here; (with_reducible show wpAny _ _ (PySem.call (Value.ref 147) _) _ _ _); (with_reducible rename Fr _ _ _ _ => kFq); (with_reducible rename News _ _ _ _ => kNq); k_dflt (refine' useInt (c_law_whole ⟨?zqgx, ?zqgt⟩ kFq.keep ?zqhl ?zqhi ?zqhn ?zqw0 ?zqw1 ?zqr1) kFq kNq rfl (by first | exact Nat.le_of_ble_eq_true rfl | (dsimp only [Ar]; omega)) (by first | exact Nat.le_of_ble_eq_true rfl | (dsimp only [Ar]; omega)) ?_; (case zqgx => with_reducible assumption); (case zqgt => with_reducible assumption); (case zqhl => first | exact Fr.lst kFq (by with_reducible assumption) | exact News.isList kNq (by k_mem)); (case zqhi => with_reducible assumption); (case zqhn => first | with_reducible assumption | exact Nat.le_trans (by with_reducible assumption) (Nat.le_of_ble_eq_true rfl) | omega | (simp only [List.length_take, List.length_drop, List.length_append, List.length_cons, List.length_nil]; omega)); (case zqw0 => first | with_reducible assumption | omega | (simp only [List.length_take, List.length_drop, List.length_append, List.length_cons, List.length_nil]; omega)); (case zqw1 => first | with_reducible assumption | omega | (simp only [List.length_take, List.length_drop, List.length_append, List.length_cons, List.length_nil]; omega)); (case zqr1 => with_reducible assumption)); intro _ _ _ _ _ _ zhP; subst zhP; clear kFq kNq) | (refine goOn ?_; k_dflt (refine' nestDef_K ?zqd0 ?zqk0 ?zqa0 ?_; (case zqd0 => exact rfl); (case zqk0 => exact rfl); (case zqa0 => exact rfl)); k_dflt (refine' nest_any ?zqF ?zqN ?zqT ?zqC ?zqcd ?zqU ?zqhps ?zqcl ?_; (case zqF => k_asm); (case zqN => k_asm); (case zqT => k_asm); (case zqcd => exact rfl); (case zqC => kn_code); (case zqU => exact UpdF.tail (by k_ne) (UpdF.tail (by k_ne) (UpdF.head (by with_reducible assumption)))); (case zqcl => exact rfl); (case zqhps => exact hps_tail (by assumption))); intro _ _ _ _ _ _ _ _ kNn; (try dsimp only at kNn); revert kNn; intro _ _ _ _) | (refine goOn ?_; k_dflt (refine' kmk_slice_ints ?zqF ?zqN ?zql ?zqp ?zqq ?zqi ?zqm rfl ?_ ?zqs ?zqt ?zqz; (case zqF => k_asm); (case zqN => k_asm); (case zql => first | exact Fr.lst (by assumption) (by assumption) | exact News.isList (by assumption) (by k_mem)); (case zqp => kmk_part); (case zqq => kmk_part); (case zqi => assumption); (case zqm => first | exact kmk_all (by assumption) | exact kmk_from (by assumption) (by first | assumption | omega) | exact kmk_upto (by assumption) (by first | assumption | omega) | exact kmk_run (by assumption) (by first | assumption | omega) (by first | assumption | omega)); (case zqs => with_unfolding_all rfl); (case zqt => kmk_pure); (case zqz => exact sz_ok (by assumption) (by omega))); intro _ _ _ _ _ zl1 _ zhC zhL; (try k_lt zl1); (try k_sweep); clear zhC zhL) | (refine goOn ?_; with_reducible rename Fr _ _ _ _ => kFq; with_reducible rename News _ _ _ _ => kNq; k_dflt (refine' appD kFq kNq ?zqo ?zqz ?_; (case zqo => first | exact offOne (by assumption) | exact offNil | assumption); (case zqz => first | assumption | omega)); intro _ _ _; clear kFq kNq) | fail); (try k_steps))
  unfold Stop
  rename Fr _ _ _ _ => F4
  rename News _ _ _ _ => N4
  rename CodeO _ _ => hqc
  rename _ ∧ _ ∧ _ ∨ _ => hor
  rename ∀ q ∈ _, _ < _ => lf
  rename_i o1 o2 e1 e2 f c' oc ct dc h5 tk5 h6
  have none_of : ∀ {a : Addr}, s.heap.get? a = none → b.get? a = none := fun {a} e => by
    cases z : b.get? a with
    | none => rfl
    | some o => rw [hb _ _ z] at e; cases e
  have hcw : s.heap.get? (L + 1) = none := hidden_none' hg (N4 _ (.tail _ (.tail _ (.tail _ (.head _))))).2.2 (not_all fun q hq => Nat.lt_succ_of_lt (hlt' q hq))
  have hct : s.heap.get? (L + 1 + 1) = none := hidden_none' hg (N4 _ (.tail _ (.tail _ (.head _)))).2.2 (not_all fun q hq => Nat.lt_succ_of_lt (Nat.lt_succ_of_lt (hlt' q hq)))
  have hff : s.heap.get? f = none := hidden_none' hg (N4 _ (.head _)).2.2 (not_all fun q hq => lf _ (.tail _ (.tail _ hq)))
  have hcc0 : ps = #[] ∧ s.heap.get? c' = none ∨ ps ≠ #[] ∧ c' = c0 := by
    rcases hor with ⟨h1, h2, h3⟩ | h
    · exact .inl ⟨h1, hidden_none' hg h2 (not_all fun q hq => h3 _ (.tail _ (.tail _ hq)))⟩
    · exact .inr h
  have hkk : Kept [156] s.heap h6 := kept_hid hg (fun q hq n => by
    rcases List.mem_cons.mp hq with rfl | hq
    · exact absurd (List.mem_singleton.mpr rfl) n
    · exact ⟨(N4 _ (.tail _ (.tail _ (.tail _ (.tail _ (.tail _ hq)))))).1, (hhx q hq).1.1⟩) F4
  refine ⟨_, h6, _, rfl, rfl, hkk, f, _, c', oc, L + 1, o2, L + 1 + 1, o1, rfl, ⟨_, _, _, _, rfl⟩, hff, hcw, hct, hcc0, (N4 _ (.head _)).1, (N4 _ (.tail _ (.head _))).1, (N4 _ (.tail _ (.tail _ (.tail _ (.head _))))).1, (N4 _ (.tail _ (.tail _ (.head _)))).1,
    (N4 _ (.tail _ (.tail _ (.tail _ (.tail _ (.head _)))))).1, hqc, ?_⟩
  obtain ⟨vs, t, d1, d2⟩ := hqc
  clear F4 N4 X' T' hC qk ek hor lf hg hcc0 hhx hx0 hps' hlt'
  replace e1 : o1.data = .cell (some (.ref T)) := e1
  replace e2 : o2.data = .cell (some (.int wv tw)) := e2
  intro s2 l vs2 os ns ts e tw2 hb2 hK2 hT2 hTi hTl hl2 hlT hi2 hn2 hr2
  have hTw : ∀ {a : Addr} {o : Obj} {v : Option Value}, o.data = .cell v → s2.heap.get? a = some o → a ≠ T ∧ a ≠ l := fun {a o v} ho ha => by
    refine ⟨fun q => ?_, fun q => ?_⟩
    · rw [q, hT2] at ha; cases ha; cases ho
    · obtain ⟨o', ho', _, n', hd'⟩ := hl2
      rw [q, ho'] at ha; cases ha; rw [ho] at hd'; cases hd'
  have hw2 := hK2 _ (.tail _ (.tail _ (.head _)))
  have ht2 := hK2 _ (.tail _ (.tail _ (.tail _ (.head _))))
  have hwT := hTw e2 hw2
  have htT := hTw e1 ht2
  refine' enterN (binds := [(Str.ofString "a", .ref l), (Str.ofString "width", .int wv tw2)]) G hb2 [(T, listOf (List.toArray os) e), (L + 1 + 1, o1), (L + 1, o2)] ?hh (hK2 _ (.head _)) rfl ⟨_, _, _, _, rfl, hK2 _ (.tail _ (.head _)), d1, d2⟩ (by decide) (BindsTo.of_eq rfl) (locs rfl) ?_ (by decide)
  case hh =>
    intro q hq
    rcases List.mem_cons.mp hq with rfl | hq
    · exact ⟨hT2, hTb⟩
    rcases List.mem_cons.mp hq with rfl | hq
    · exact ⟨ht2, none_of hct⟩
    rw [List.mem_singleton.mp hq]
    exact ⟨hw2, none_of hcw⟩
  intro g2 L2 h2 hg2 F2 N2 X2 T2
  try dsimp only
  k_fold
  have hlg : g2.IsList l vs2.toArray := by
    obtain ⟨o, ho, r⟩ := hl2
    refine ⟨o, ?_, r⟩
    rw [hg2]
    refine hideAll_get _ ho fun z => ?_
    rcases List.mem_cons.mp z with z | z
    · exact hlT z
    rcases List.mem_cons.mp z with z | z
    · exact htT.2 z.symm
    · exact hwT.2 (List.mem_singleton.mp z).symm
  have hoT : ∀ q ∈ [(L + 1 + 1, o1), (L + 1, o2)], q.1 ≠ T := fun q hq => by
    rcases List.mem_cons.mp hq with rfl | hq
    · exact htT.1
    · rw [List.mem_singleton.mp hq]; exact hwT.1
  have hol : os.length ≤ 10000 := by rw [IntsAre.length hTi]; omega
  have hB1 := base_gt hw0
  have hlm := hr2.1
  have hvb := sq_bound rfl hw0 hw1 hn2 hlm
  have hvc := sq_bound2 hvb.1 hvb.2 hvb.1 hvb.2
  have hbt := bits_mono (n := 400) (bits_lt hvb.1 hvb.2) (by decide)
  have hpp : val (2 ^ wv.toNat) ns ^ Int.toNat 2 = val (2 ^ wv.toNat) ns * val (2 ^ wv.toNat) ns := by
    rw [show Int.toNat 2 = 2 from rfl, Int.pow_succ, Int.pow_succ, Int.pow_zero, Int.one_mul]
  have hp0 : 0 ≤ val (2 ^ wv.toNat) ns ^ Int.toNat 2 := by rw [hpp]; exact hvc.1
  have hp1 : val (2 ^ wv.toNat) ns ^ Int.toNat 2 < 2 ^ 512 := by rw [hpp]; exact row_lt hvc.2
  clear hpp hvb hvc
  k_steps
  repeat' ((first | (refine goOn ?_; k_here; (with_reducible show wpAny _ _ (PySem.call (Value.ref 142) _) _ _ _); (with_reducible rename Fr _ _ _ _ => kFq); (with_reducible rename News _ _ _ _ => kNq); k_dflt (refine' useList (c_law_row ⟨?zqgx, ?zqgt⟩ kFq.keep ?zqw0 ?zqw1 ?zqn0 ?zqn1) kFq kNq rfl (by first | exact Nat.le_of_ble_eq_true rfl | (dsimp only [Ar]; omega)) (by first | exact Nat.le_of_ble_eq_true rfl | (dsimp only [Ar]; omega)) ?_; (case zqgx => with_reducible assumption); (case zqgt => with_reducible assumption); (case zqw0 => first | with_reducible assumption | omega); (case zqw1 => first | with_reducible assumption | omega); (case zqn0 => first | with_reducible assumption | omega); (case zqn1 => first | with_reducible assumption | omega)); intro _ _ _ _ _ _ _ _ _ _ zhP; have _ := zhP.1; have _ := zhP.2; clear zhP; clear kFq kNq) | (refine goOn ?_; k_here; (with_reducible show wpAny _ _ (PySem.call (Value.ref 147) _) _ _ _); (with_reducible rename Fr _ _ _ _ => kFq); (with_reducible rename News _ _ _ _ => kNq); k_dflt (refine' useInt (c_law_whole ⟨?zqgx, ?zqgt⟩ kFq.keep ?zqhl ?zqhi ?zqhn ?zqw0 ?zqw1 ?zqr1) kFq kNq rfl (by first | exact Nat.le_of_ble_eq_true rfl | (dsimp only [Ar]; omega)) (by first | exact Nat.le_of_ble_eq_true rfl | (dsimp only [Ar]; omega)) ?_; (case zqgx => with_reducible assumption); (case zqgt => with_reducible assumption); (case zqhl => first | exact Fr.lst kFq (by with_reducible assumption) | exact News.isList kNq (by k_mem)); (case zqhi => with_reducible assumption); (case zqhn => first | with_reducible assumption | exact Nat.le_trans (by with_reducible assumption) (Nat.le_of_ble_eq_true rfl) | omega | (simp only [List.length_take, List.length_drop, List.length_append, List.length_cons, List.length_nil]; omega)); (case zqw0 => first | with_reducible assumption | omega | (simp only [List.length_take, List.length_drop, List.length_append, List.length_cons, List.length_nil]; omega)); (case zqw1 => first | with_reducible assumption | omega | (simp only [List.length_take, List.length_drop, List.length_append, List.length_cons, List.length_nil]; omega)); (case zqr1 => with_reducible assumption)); intro _ _ _ _ _ _ zhP; subst zhP; clear kFq kNq) | (refine goOn ?_; k_dflt (refine' nestDef_K ?zqd0 ?zqk0 ?zqa0 ?_; (case zqd0 => exact rfl); (case zqk0 => exact rfl); (case zqa0 => exact rfl)); k_dflt (refine' nest_any ?zqF ?zqN ?zqT ?zqC ?zqcd ?zqU ?zqhps ?zqcl ?_; (case zqF => k_asm); (case zqN => k_asm); (case zqT => k_asm); (case zqcd => exact rfl); (case zqC => kn_code); (case zqU => exact UpdF.tail (by k_ne) (UpdF.tail (by k_ne) (UpdF.head (by with_reducible assumption)))); (case zqcl => exact rfl); (case zqhps => exact hps_tail (by assumption))); intro _ _ _ _ _ _ _ _ kNn; (try dsimp only at kNn); revert kNn; intro _ _ _ _) | (refine goOn ?_; k_dflt (refine' kmk_slice_ints ?zqF ?zqN ?zql ?zqp ?zqq ?zqi ?zqm rfl ?_ ?zqs ?zqt ?zqz; (case zqF => k_asm); (case zqN => k_asm); (case zql => first | exact Fr.lst (by assumption) (by assumption) | exact News.isList (by assumption) (by k_mem)); (case zqp => kmk_part); (case zqq => kmk_part); (case zqi => assumption); (case zqm => first | exact kmk_all (by assumption) | exact kmk_from (by assumption) (by first | assumption | omega) | exact kmk_upto (by assumption) (by first | assumption | omega) | exact kmk_run (by assumption) (by first | assumption | omega) (by first | assumption | omega)); (case zqs => with_unfolding_all rfl); (case zqt => kmk_pure); (case zqz => exact sz_ok (by assumption) (by omega))); intro _ _ _ _ _ zl1 _ zhC zhL; (try k_lt zl1); (try k_sweep); clear zhC zhL) | (refine goOn ?_; with_reducible rename Fr _ _ _ _ => kFq; with_reducible rename News _ _ _ _ => kNq; k_dflt (refine' appD kFq kNq ?zqo ?zqz ?_; (case zqo => first | exact offOne (by assumption) | exact offNil | assumption); (case zqz => first | assumption | omega)); intro _ _ _; clear kFq kNq) | fail); (try k_steps))
  · unfold Stop
    rename Fr _ _ _ _ => F5
    rename News _ _ _ _ => N5
    rename AwayFrom _ _ => ne
    refine ⟨_, _, _, rfl, rfl, kept_hid hg2 (fun q hq n => ?_) F5, ⟨_, _, _, _, rfl, hidden_none' hg2 (N5 _ (.head _)).2.2 (fun z => ?_), (N5 _ (.head _)).1, by assumption, by assumption, by assumption⟩, _, _, [(ns.length : Int)], (N5 _ (.tail _ (.head _))).1, ints_snoc hTi _ _, by simp, by simp, fun x hx => ?_⟩
    · rcases List.mem_cons.mp hq with rfl | hq
      · exact absurd (List.mem_singleton.mpr rfl) n
      rcases List.mem_cons.mp hq with rfl | hq
      · exact ⟨(N5 _ (.tail _ (.tail _ (.head _)))).1, ht2⟩
      rw [List.mem_singleton.mp hq]
      exact ⟨(N5 _ (.tail _ (.tail _ (.tail _ (.head _))))).1, hw2⟩
    · rcases List.mem_cons.mp z with z | z
      · exact ne.ne (.head _) z.symm
      rcases List.mem_cons.mp z with z | z
      · exact ne.ne (.tail _ (.head _)) z.symm
      · exact ne.ne (.tail _ (.tail _ (.head _))) (List.mem_singleton.mp z).symm
    · rw [List.mem_singleton.mp hx]; omega
  · rename _ ≠ _ => hne
    exact absurd rfl hne
local macro_rules | `(tactic| walk_at "binaryOp Mult int int") => `(tactic| (k_dflt (refine' mul_0 ?_ ?mm; (case mm => with_reducible assumption)); dsimp only [Made.post]))
theorem news_swap {h₀ h : Heap} {L : Addr} {x y : Addr × Obj} {r : List (Addr × Obj)} (N : News h₀ L h (x :: y :: r)) : News h₀ L h (y :: x :: r) := fun q hq => by
  rcases List.mem_cons.mp hq with rfl | hq
  · exact N _ (.tail _ (.head _))
  rcases List.mem_cons.mp hq with rfl | hq
  · exact N _ (.head _)
  · exact N _ (.tail _ (.tail _ hq))
set_option maxHeartbeats 8000000 in
theorem c_law_product {T c0 : Addr} {oT o0 : Obj} {hx : List (Addr × Obj)} {ps : Array Value} {wv : Int} {tw : Tok} (G : Gd w p loose mean mg mb b) (hb : b.StaysIn s.heap) (hP : s.heap.get? 163 = some (tabObj ps)) (hPb : b.get? 163 = none)
    (hps : ps = #[] ∨ (ps = #[rawInt (109 : Nat), rawInt (4 : Nat), .ref c0] ∧ (c0, o0) ∈ hx ∧ CodeO o0 (Str.ofString "_law_product.<locals>.given"))) (hhx : ∀ q ∈ hx, (s.heap.get? q.1 = some q.2 ∧ b.get? q.1 = none) ∧ q.1 ≠ 163)
    (hTs : s.heap.get? T = some oT) (hTb : b.get? T = none) (hw0 : 1 ≤ wv) (hw1 : wv ≤ 9) :
    codeAny (model PP w) (Ar 980 5000) (.call (.ref 168) ⟨[.int wv tw, .ref T], []⟩)
      (Done [163] (CloOut s.heap 163 109 (Str.ofString "_law_product.<locals>.given") (fun Ks f => MulOk w b Ks f T wv) ps c0) s) s := by
  refine' enterCH (binds := [(Str.ofString "w", .int wv tw), (Str.ofString "told", .ref T)]) G hb ((163, tabObj ps) :: hx) ?hh ?ho ?hcd ?hr ?hb ?hk ?hd ?_ ?c1 ?c2 ?c3
  case ho => k_is
  case hcd => k_is
  case hr => first | decide | assumption
  case hb => exact BindsTo.of_eq rfl
  case hk => exact rfl
  case hd => decide +kernel
  case c1 => rfl
  case c2 => rfl
  case c3 => rfl
  case hh => exact fun q hq => (List.mem_cons.mp hq).elim (fun e => by rw [e]; exact ⟨hP, hPb⟩) fun hq => (hhx q hq).1
  intro g L h₁ tk₀ cells hg F' N' Y' X' T' hlt'
  try dsimp only
  k_fold
  k_cells Y'
  simp only [List.cons_append, List.nil_append] at N'
  have hC : CodeHd g 167 163 := codeHd_of_K X' (by kernel_rfl)
  have l0 : @LT.lt Nat _ 163 L := hlt' _ (.head _)
  have hx0 : ∀ q ∈ hx, q.1 ≠ 163 := fun q hq => (hhx q hq).2
  have hps' : ps = #[] ∨ (ps = #[rawInt (109 : Nat), rawInt (4 : Nat), .ref c0] ∧ (c0, o0) ∈ hx ∧ c0 ≠ 163 ∧ CodeO o0 (Str.ofString "_law_product.<locals>.given")) := by
    rcases hps with hps | ⟨hps, hc0, hq0⟩
    · exact .inl hps
    · exact .inr ⟨hps, hc0, hx0 _ hc0, hq0⟩
  clear hps
  k_steps
  repeat' ((first | (refine goOn ?_; k_here; (with_reducible show wpAny _ _ (PySem.call (Value.ref 142) _) _ _ _); (with_reducible rename Fr _ _ _ _ => kFq); (with_reducible rename News _ _ _ _ => kNq); k_dflt (refine' useList (c_law_row ⟨?zqgx, ?zqgt⟩ kFq.keep ?zqw0 ?zqw1 ?zqn0 ?zqn1) kFq kNq rfl (by first | exact Nat.le_of_ble_eq_true rfl | (dsimp only [Ar]; omega)) (by first | exact Nat.le_of_ble_eq_true rfl | (dsimp only [Ar]; omega)) ?_; (case zqgx => with_reducible assumption); (case zqgt => with_reducible assumption); (case zqw0 => first | with_reducible assumption | omega); (case zqw1 => first | with_reducible assumption | omega); (case zqn0 => first | with_reducible assumption | omega); (case zqn1 => first | with_reducible assumption | omega)); intro _ _ _ _ _ _ _ _ _ _ zhP; have _ := zhP.1; have _ := zhP.2; clear zhP; clear kFq kNq) | (refine goOn ?_; k_here; (with_reducible show wpAny _ _ (PySem.call (Value.ref 147) _) _ _ _); (with_reducible rename Fr _ _ _ _ => kFq); (with_reducible rename News _ _ _ _ => kNq); k_dflt (refine' useInt (c_law_whole ⟨?zqgx, ?zqgt⟩ kFq.keep ?zqhl ?zqhi ?zqhn ?zqw0 ?zqw1 ?zqr1) kFq kNq rfl (by first | exact Nat.le_of_ble_eq_true rfl | (dsimp only [Ar]; omega)) (by first | exact Nat.le_of_ble_eq_true rfl | (dsimp only [Ar]; omega)) ?_; (case zqgx => with_reducible assumption); (case zqgt => with_reducible assumption); (case zqhl => first | exact Fr.lst kFq (by with_reducible assumption) | exact News.isList kNq (by k_mem)); (case zqhi => with_reducible assumption); (case zqhn => first | with_reducible assumption | exact Nat.le_trans (by with_reducible assumption) (Nat.le_of_ble_eq_true rfl) | omega | (simp only [List.length_take, List.length_drop, List.length_append, List.length_cons, List.length_nil]; omega)); (case zqw0 => first | with_reducible assumption | omega | (simp only [List.length_take, List.length_drop, List.length_append, List.length_cons, List.length_nil]; omega)); (case zqw1 => first | with_reducible assumption | omega | (simp only [List.length_take, List.length_drop, List.length_append, List.length_cons, List.length_nil]; omega)); (case zqr1 => with_reducible assumption)); intro _ _ _ _ _ _ zhP; subst zhP; clear kFq kNq) | (refine goOn ?_; k_dflt (refine' nestDef_K ?zqd0 ?zqk0 ?zqa0 ?_; (case zqd0 => exact rfl); (case zqk0 => exact rfl); (case zqa0 => exact rfl)); k_dflt (refine' nest_any ?zqF ?zqN ?zqT ?zqC ?zqcd ?zqU ?zqhps ?zqcl ?_; (case zqF => k_asm); (case zqN => k_asm); (case zqT => k_asm); (case zqcd => exact rfl); (case zqC => kn_code); (case zqU => exact UpdF.tail (by k_ne) (UpdF.tail (by k_ne) (UpdF.head (by with_reducible assumption)))); (case zqcl => exact rfl); (case zqhps => exact hps_tail (by assumption))); intro _ _ _ _ _ _ _ _ kNn; (try dsimp only at kNn); revert kNn; intro _ _ _ _) | (refine goOn ?_; with_reducible rename Fr _ _ _ _ => kFq; with_reducible rename News _ _ _ _ => kNq; k_dflt (refine' appD kFq (news_swap kNq) ?zqo ?zqz ?_; (case zqo => exact List.forall_mem_cons.mpr ⟨by k_ne, by assumption⟩); (case zqz => first | assumption | omega)); intro _ _ _; clear kFq kNq) | (refine goOn ?_; k_dflt (refine' kmk_slice_ints ?zqF ?zqN ?zql ?zqp ?zqq ?zqi ?zqm rfl ?_ ?zqs ?zqt ?zqz; (case zqF => k_asm); (case zqN => k_asm); (case zql => first | exact Fr.lst (by assumption) (by assumption) | exact News.isList (by assumption) (by k_mem)); (case zqp => kmk_part); (case zqq => kmk_part); (case zqi => assumption); (case zqm => first | exact kmk_all (by assumption) | exact kmk_from (by assumption) (by first | assumption | omega) | exact kmk_upto (by assumption) (by first | assumption | omega) | exact kmk_run (by assumption) (by first | assumption | omega) (by first | assumption | omega)); (case zqs => with_unfolding_all rfl); (case zqt => kmk_pure); (case zqz => exact sz_ok (by assumption) (by omega))); intro _ _ _ _ _ zl1 _ zhC zhL; (try k_lt zl1); (try k_sweep); clear zhC zhL) | (refine goOn ?_; with_reducible rename Fr _ _ _ _ => kFq; with_reducible rename News _ _ _ _ => kNq; k_dflt (refine' appD kFq kNq ?zqo ?zqz ?_; (case zqo => first | exact offOne (by assumption) | exact offNil | assumption); (case zqz => first | assumption | omega)); intro _ _ _; clear kFq kNq) | fail); (try k_steps))
  unfold Stop
  rename Fr _ _ _ _ => F4
  rename News _ _ _ _ => N4
  rename CodeO _ _ => hqc
  rename _ ∧ _ ∧ _ ∨ _ => hor
  rename ∀ q ∈ _, _ < _ => lf
  rename_i o1 o2 e1 e2 f c' oc ct dc h5 tk5 h6
  have none_of : ∀ {a : Addr}, s.heap.get? a = none → b.get? a = none := fun {a} e => by
    cases z : b.get? a with
    | none => rfl
    | some o => rw [hb _ _ z] at e; cases e
  have hcw : s.heap.get? (L + 1) = none := hidden_none' hg (N4 _ (.tail _ (.tail _ (.tail _ (.head _))))).2.2 (not_all fun q hq => Nat.lt_succ_of_lt (hlt' q hq))
  have hct : s.heap.get? (L + 1 + 1) = none := hidden_none' hg (N4 _ (.tail _ (.tail _ (.head _)))).2.2 (not_all fun q hq => Nat.lt_succ_of_lt (Nat.lt_succ_of_lt (hlt' q hq)))
  have hff : s.heap.get? f = none := hidden_none' hg (N4 _ (.head _)).2.2 (not_all fun q hq => lf _ (.tail _ (.tail _ hq)))
  have hcc0 : ps = #[] ∧ s.heap.get? c' = none ∨ ps ≠ #[] ∧ c' = c0 := by
    rcases hor with ⟨h1, h2, h3⟩ | h
    · exact .inl ⟨h1, hidden_none' hg h2 (not_all fun q hq => h3 _ (.tail _ (.tail _ hq)))⟩
    · exact .inr h
  have hkk : Kept [163] s.heap h6 := kept_hid hg (fun q hq n => by
    rcases List.mem_cons.mp hq with rfl | hq
    · exact absurd (List.mem_singleton.mpr rfl) n
    · exact ⟨(N4 _ (.tail _ (.tail _ (.tail _ (.tail _ (.tail _ hq)))))).1, (hhx q hq).1.1⟩) F4
  refine ⟨_, h6, _, rfl, rfl, hkk, f, _, c', oc, L + 1, o2, L + 1 + 1, o1, rfl, ⟨_, _, _, _, rfl⟩, hff, hcw, hct, hcc0, (N4 _ (.head _)).1, (N4 _ (.tail _ (.head _))).1, (N4 _ (.tail _ (.tail _ (.tail _ (.head _))))).1, (N4 _ (.tail _ (.tail _ (.head _)))).1,
    (N4 _ (.tail _ (.tail _ (.tail _ (.tail _ (.head _)))))).1, hqc, ?_⟩
  obtain ⟨vs, t, d1, d2⟩ := hqc
  clear F4 N4 X' T' hC qk ek hor lf hg hcc0 hhx hx0 hps' hlt'
  replace e1 : o1.data = .cell (some (.ref T)) := e1
  replace e2 : o2.data = .cell (some (.int wv tw)) := e2
  intro s2 l l3 vs2 vs3 os ns ns3 e tw2 hb2 hK2 hT2 hTl hl2 hl3 hlT hlT3 hi2 hi3 hn2 hn3 hr2 hr3
  have hTw : ∀ {a : Addr} {o : Obj} {v : Option Value}, o.data = .cell v → s2.heap.get? a = some o → a ≠ T ∧ a ≠ l ∧ a ≠ l3 := fun {a o v} ho ha => by
    refine ⟨fun q => ?_, fun q => ?_, fun q => ?_⟩
    · rw [q, hT2] at ha; cases ha; cases ho
    · obtain ⟨o', ho', _, n', hd'⟩ := hl2
      rw [q, ho'] at ha; cases ha; rw [ho] at hd'; cases hd'
    · obtain ⟨o', ho', _, n', hd'⟩ := hl3
      rw [q, ho'] at ha; cases ha; rw [ho] at hd'; cases hd'
  have hw2 := hK2 _ (.tail _ (.tail _ (.head _)))
  have ht2 := hK2 _ (.tail _ (.tail _ (.tail _ (.head _))))
  have hwT := hTw e2 hw2
  have htT := hTw e1 ht2
  refine' enterN (binds := [(Str.ofString "a", .ref l), (Str.ofString "b", .ref l3), (Str.ofString "width", .int wv tw2)]) G hb2 [(T, listOf (List.toArray os) e), (L + 1 + 1, o1), (L + 1, o2)] ?hh (hK2 _ (.head _)) rfl ⟨_, _, _, _, rfl, hK2 _ (.tail _ (.head _)), d1, d2⟩ (by decide) (BindsTo.of_eq rfl) (locs rfl) ?_ (by decide)
  case hh =>
    intro q hq
    rcases List.mem_cons.mp hq with rfl | hq
    · exact ⟨hT2, hTb⟩
    rcases List.mem_cons.mp hq with rfl | hq
    · exact ⟨ht2, none_of hct⟩
    rw [List.mem_singleton.mp hq]
    exact ⟨hw2, none_of hcw⟩
  intro g2 L2 h2 hg2 F2 N2 X2 T2
  try dsimp only
  k_fold
  have hlg : g2.IsList l vs2.toArray := by
    obtain ⟨o, ho, r⟩ := hl2
    refine ⟨o, ?_, r⟩
    rw [hg2]
    refine hideAll_get _ ho fun z => ?_
    rcases List.mem_cons.mp z with z | z
    · exact hlT z
    rcases List.mem_cons.mp z with z | z
    · exact htT.2.1 z.symm
    · exact hwT.2.1 (List.mem_singleton.mp z).symm
  have hlg3 : g2.IsList l3 vs3.toArray := by
    obtain ⟨o, ho, r⟩ := hl3
    refine ⟨o, ?_, r⟩
    rw [hg2]
    refine hideAll_get _ ho fun z => ?_
    rcases List.mem_cons.mp z with z | z
    · exact hlT3 z
    rcases List.mem_cons.mp z with z | z
    · exact htT.2.2 z.symm
    · exact hwT.2.2 (List.mem_singleton.mp z).symm
  have hoT : ∀ q ∈ [(L + 1 + 1, o1), (L + 1, o2)], q.1 ≠ T := fun q hq => by
    rcases List.mem_cons.mp hq with rfl | hq
    · exact htT.1
    · rw [List.mem_singleton.mp hq]; exact hwT.1
  have hol : os.length ≤ 10000 := by omega
  have hB1 := base_gt hw0
  have hlm := hr2.1
  have hlm3 := hr3.1
  have hvb := sq_bound rfl hw0 hw1 hn2 hlm
  have hvb3 := sq_bound rfl hw0 hw1 hn3 hlm3
  have hvc := sq_bound2 hvb.1 hvb.2 hvb3.1 hvb3.2
  have hmu := IntMulOk.of_le (bits_lt hvb.1 hvb.2) (bits_lt hvb3.1 hvb3.2) (by decide)
  have hp0 := hvc.1
  have hp1 := row_lt hvc.2
  clear hvb hvb3 hvc
  k_steps
  repeat' ((first | (refine goOn ?_; k_here; (with_reducible show wpAny _ _ (PySem.call (Value.ref 142) _) _ _ _); (with_reducible rename Fr _ _ _ _ => kFq); (with_reducible rename News _ _ _ _ => kNq); k_dflt (refine' useList (c_law_row ⟨?zqgx, ?zqgt⟩ kFq.keep ?zqw0 ?zqw1 ?zqn0 ?zqn1) kFq kNq rfl (by first | exact Nat.le_of_ble_eq_true rfl | (dsimp only [Ar]; omega)) (by first | exact Nat.le_of_ble_eq_true rfl | (dsimp only [Ar]; omega)) ?_; (case zqgx => with_reducible assumption); (case zqgt => with_reducible assumption); (case zqw0 => first | with_reducible assumption | omega); (case zqw1 => first | with_reducible assumption | omega); (case zqn0 => first | with_reducible assumption | omega); (case zqn1 => first | with_reducible assumption | omega)); intro _ _ _ _ _ _ _ _ _ _ zhP; have _ := zhP.1; have _ := zhP.2; clear zhP; clear kFq kNq) | (refine goOn ?_; k_here; (with_reducible show wpAny _ _ (PySem.call (Value.ref 147) _) _ _ _); (with_reducible rename Fr _ _ _ _ => kFq); (with_reducible rename News _ _ _ _ => kNq); k_dflt (refine' useInt (c_law_whole ⟨?zqgx, ?zqgt⟩ kFq.keep ?zqhl ?zqhi ?zqhn ?zqw0 ?zqw1 ?zqr1) kFq kNq rfl (by first | exact Nat.le_of_ble_eq_true rfl | (dsimp only [Ar]; omega)) (by first | exact Nat.le_of_ble_eq_true rfl | (dsimp only [Ar]; omega)) ?_; (case zqgx => with_reducible assumption); (case zqgt => with_reducible assumption); (case zqhl => first | exact Fr.lst kFq (by with_reducible assumption) | exact News.isList kNq (by k_mem)); (case zqhi => with_reducible assumption); (case zqhn => first | with_reducible assumption | exact Nat.le_trans (by with_reducible assumption) (Nat.le_of_ble_eq_true rfl) | omega | (simp only [List.length_take, List.length_drop, List.length_append, List.length_cons, List.length_nil]; omega)); (case zqw0 => first | with_reducible assumption | omega | (simp only [List.length_take, List.length_drop, List.length_append, List.length_cons, List.length_nil]; omega)); (case zqw1 => first | with_reducible assumption | omega | (simp only [List.length_take, List.length_drop, List.length_append, List.length_cons, List.length_nil]; omega)); (case zqr1 => with_reducible assumption)); intro _ _ _ _ _ _ zhP; subst zhP; clear kFq kNq) | (refine goOn ?_; k_dflt (refine' nestDef_K ?zqd0 ?zqk0 ?zqa0 ?_; (case zqd0 => exact rfl); (case zqk0 => exact rfl); (case zqa0 => exact rfl)); k_dflt (refine' nest_any ?zqF ?zqN ?zqT ?zqC ?zqcd ?zqU ?zqhps ?zqcl ?_; (case zqF => k_asm); (case zqN => k_asm); (case zqT => k_asm); (case zqcd => exact rfl); (case zqC => kn_code); (case zqU => exact UpdF.tail (by k_ne) (UpdF.tail (by k_ne) (UpdF.head (by with_reducible assumption)))); (case zqcl => exact rfl); (case zqhps => exact hps_tail (by assumption))); intro _ _ _ _ _ _ _ _ kNn; (try dsimp only at kNn); revert kNn; intro _ _ _ _) | (refine goOn ?_; with_reducible rename Fr _ _ _ _ => kFq; with_reducible rename News _ _ _ _ => kNq; k_dflt (refine' appD kFq (news_swap kNq) ?zqo ?zqz ?_; (case zqo => exact List.forall_mem_cons.mpr ⟨by k_ne, by assumption⟩); (case zqz => first | assumption | omega)); intro _ _ _; clear kFq kNq) | (refine goOn ?_; k_dflt (refine' kmk_slice_ints ?zqF ?zqN ?zql ?zqp ?zqq ?zqi ?zqm rfl ?_ ?zqs ?zqt ?zqz; (case zqF => k_asm); (case zqN => k_asm); (case zql => first | exact Fr.lst (by assumption) (by assumption) | exact News.isList (by assumption) (by k_mem)); (case zqp => kmk_part); (case zqq => kmk_part); (case zqi => assumption); (case zqm => first | exact kmk_all (by assumption) | exact kmk_from (by assumption) (by first | assumption | omega) | exact kmk_upto (by assumption) (by first | assumption | omega) | exact kmk_run (by assumption) (by first | assumption | omega) (by first | assumption | omega)); (case zqs => with_unfolding_all rfl); (case zqt => kmk_pure); (case zqz => exact sz_ok (by assumption) (by omega))); intro _ _ _ _ _ zl1 _ zhC zhL; (try k_lt zl1); (try k_sweep); clear zhC zhL) | (refine goOn ?_; with_reducible rename Fr _ _ _ _ => kFq; with_reducible rename News _ _ _ _ => kNq; k_dflt (refine' appD kFq kNq ?zqo ?zqz ?_; (case zqo => first | exact offOne (by assumption) | exact offNil | assumption); (case zqz => first | assumption | omega)); intro _ _ _; clear kFq kNq) | fail); (try k_steps))
  · unfold Stop
    rename Fr _ _ _ _ => F5
    rename News _ _ _ _ => N5
    rename AwayFrom _ _ => ne
    rename _ ∧ _ ∧ _ => l1
    have hTD : ∀ {a : Addr}, @LT.lt Nat _ T a → @LT.lt Nat _ (L + 1 + 1) a → @LT.lt Nat _ (L + 1) a → a ∉ List.map (fun x : Addr × Obj => x.1) [(T, listOf (List.toArray os) e), (L + 1 + 1, o1), (L + 1, o2)] := fun {a} k1 k2 k3 z => by
      rcases List.mem_cons.mp z with z | z
      · rw [z] at k1; exact Nat.lt_irrefl _ k1
      rcases List.mem_cons.mp z with z | z
      · rw [z] at k2; exact Nat.lt_irrefl _ k2
      · rw [List.mem_singleton.mp z] at k3; exact Nat.lt_irrefl _ k3
    refine ⟨_, _, _, rfl, rfl, kept_hid hg2 (fun q hq n => ?_) F5, ⟨_, _, _, _, rfl, hidden_none' hg2 (N5 _ (.head _)).2.2 (fun z => ?_), (N5 _ (.head _)).1, by assumption, by assumption, by assumption⟩, _, _, _, _, _, hidden_none' hg2 (N5 _ (.tail _ (.tail _ (.head _)))).2.2 (hTD l1.1 l1.2.1 l1.2.2), (N5 _ (.tail _ (.tail _ (.head _)))).1, (N5 _ (.tail _ (.head _))).1⟩
    · rcases List.mem_cons.mp hq with rfl | hq
      · exact absurd (List.mem_singleton.mpr rfl) n
      rcases List.mem_cons.mp hq with rfl | hq
      · exact ⟨(N5 _ (.tail _ (.tail _ (.tail _ (.head _))))).1, ht2⟩
      rw [List.mem_singleton.mp hq]
      exact ⟨(N5 _ (.tail _ (.tail _ (.tail _ (.tail _ (.head _)))))).1, hw2⟩
    · rcases List.mem_cons.mp z with z | z
      · exact ne.ne (.head _) z.symm
      rcases List.mem_cons.mp z with z | z
      · exact ne.ne (.tail _ (.tail _ (.head _))) z.symm
      · exact ne.ne (.tail _ (.tail _ (.tail _ (.head _)))) (List.mem_singleton.mp z).symm
  · rename _ ≠ _ => hne
    exact absurd rfl hne
theorem useMul {A : Around} {d u : Nat} {f : Value} {vs : List Value} {Q E : Value → Shared → Prop} {h₀ : Heap} {L T : Addr} {m : Str → Option Value} {news : List (Addr × Obj)} {o : Obj} {g : Obj → List (Addr × Obj)} {os : List Value} {B nv x y : Int}
    (C : codeAny (model PP w) (Ar d u) (.call f ⟨vs, []⟩) (Done [T] (MulOut s.heap T os B nv x y) s) s)
    (F : Fr h₀ L s.heap m) (N : News h₀ L s.heap news) (U : UpdF T o news g) (hA : A.handled = none) (hd : A.depth ≤ d) (hu : A.units ≤ u)
    (h : ∀ D us c ms tt n t1 t2 e h' tk', Fr h₀ L h' m → News h₀ L h' ((D, listOf (List.toArray us) c) :: (tt, tupOf [.int x t1, .int y t2] n) :: g (listOf (List.toArray (os ++ [.ref tt])) e)) → AwayFrom D news → AwayFrom tt news → IntsAre us ms → Row B ms → val B ms = nv →
      Q (.ref D) { s with heap := h', toks := tk' }) : wpAny (model PP w) A (call f vs) Q E s := by
  refine use hA hd hu C fun v h' tk' k p => ?_
  obtain ⟨⟨D, us, c, ms, rfl, hD, hD', hi, hr, hv⟩, tt, n, t1, t2, e, ht, ht', hT⟩ := p
  obtain ⟨pre, post, rfl, hg, a1, a2⟩ := U.split
  have z := N (T, o) (List.mem_append_right _ (.head _))
  refine h D us c ms tt n t1 t2 e h' tk' (k.fr F fun c hc => by rw [List.mem_singleton.mp hc]; exact z.2) (fun q hq => ?_) (ne_new N hD) (ne_new N ht) hi hr hv
  rcases List.mem_cons.mp hq with rfl | hq
  · exact new_at F hD hD'
  rcases List.mem_cons.mp hq with rfl | hq
  · exact new_at F ht ht'
  rw [hg] at hq
  rcases List.mem_append.mp hq with hq | hq
  · have y := N q (List.mem_append_left _ hq)
    exact ⟨k _ _ (fun c => a1 q hq (List.mem_singleton.mp c)) y.1, y.2⟩
  · rcases List.mem_cons.mp hq with rfl | hq
    · exact ⟨hT, z.2⟩
    · have y := N q (List.mem_append_right _ (.tail _ hq))
      exact ⟨k _ _ (fun c => a2 q hq (List.mem_singleton.mp c)) y.1, y.2⟩
/-- what stands in told: pairs, the first at most K, the second K -/
def TupsIn (tups : List (Addr × Obj)) (os : List Value) (K : Int) : Prop := ∀ v ∈ os, ∃ t n x t1 t2, v = .ref t ∧ (t, tupOf [.int x t1, .int K t2] n) ∈ tups ∧ 0 ≤ x ∧ x ≤ K
inductive MSOut (H : Heap) (T : Addr) (B nv K : Int) (v : Value) (h : Heap) : Prop
  | mk (hr0 : LOut H (fun ms => Row B ms ∧ val B ms = nv) v h) (os : List Value) (e : Nat) (tups : List (Addr × Obj)) (hq0 : h.get? T = some (listOf (List.toArray os) e)) (hq1 : (∀ q ∈ tups, h.get? q.1 = some q.2 ∧ H.get? q.1 = none)) (hq2 : TupsIn tups os K) (hq3 : os.length ≤ 9) : MSOut H T B nv K v h
inductive MSJ (B : Int) (ns ns2 : List Int) (T : Addr) (i : Nat) (D : Addr) (oD oT : Obj) (tups : List (Addr × Obj)) : Prop
  | mk (hr0 : D ≠ T) (hr1 : (∀ q ∈ tups, q.1 ≠ T)) (us : List Value) (c : Nat) (ms : List Int) (os : List Value) (e : Nat) (hq0 : oD = listOf (List.toArray us) c) (hq1 : oT = listOf (List.toArray os) e) (hq2 : IntsAre us ms) (hq3 : Row B ms) (hq4 : val B ms = val B (ns.take (i * ns2.length)) * val B ns2) (hq5 : os.length = i) (hq6 : TupsIn tups os ns2.length) : MSJ B ns ns2 T i D oD oT tups
theorem MSJ.off {B : Int} {ns ns2 : List Int} {T : Addr} {i : Nat} {D : Addr} {oD oT : Obj} {tups : List (Addr × Obj)} (h : MSJ B ns ns2 T i D oD oT tups) : D ≠ T ∧ ∀ q ∈ tups, q.1 ≠ T := by
  cases h; exact ⟨by assumption, by assumption⟩
theorem slice_step {B : Int} {ns p : List Int} {i k : Nat} (h : i * k ≤ ns.length) (hp : val B p = val B ((ns.drop (i * k)).take k)) : val B (ns.take ((i + 1) * k)) = val B (ns.take (i * k)) + B ^ (i * k) * val B p := by
  rw [hp, Nat.add_mul, Nat.one_mul, List.take_add, val_append, List.length_take, Nat.min_eq_left h]
theorem range_size (la lb : Nat) (hb : 0 < lb) : ∃ n : Nat, Builtin.Range.rangeSize 0 la lb = (n : Int) ∧ la ≤ n * lb ∧ n ≤ la ∧ ∀ i : Nat, i < n → i * lb < la := by
  unfold Builtin.Range.rangeSize
  rw [if_pos (by omega)]
  by_cases h : (0 : Int) < la
  · rw [if_pos h]
    refine ⟨(la - 1) / lb + 1, ?_, ?_, ?_, fun i hi => ?_⟩
    · have : (la : Int) - 0 - 1 = ((la - 1 : Nat) : Int) := by omega
      rw [this]; push_cast; rfl
    · have := Nat.div_add_mod (la - 1) lb
      have := Nat.mod_lt (la - 1) hb
      rw [Nat.add_mul, Nat.mul_comm]; omega
    · have := Nat.div_le_self (la - 1) lb
      omega
    · have h1 := Nat.div_mul_le_self (la - 1) lb
      have h2 := Nat.mul_le_mul_right lb (show i ≤ (la - 1) / lb by omega)
      omega
  · rw [if_neg h]
    exact ⟨0, rfl, by omega, by omega, fun i hi => absurd hi (by omega)⟩
theorem small_range {la lb : Nat} (h1 : la ≤ 9) (h2 : lb ≤ 3) : Builtin.Range.small 0 la lb = true := by
  have : ∀ x : Fin 10, ∀ y : Fin 4, Builtin.Range.small 0 (x.1 : Int) (y.1 : Int) = true := by decide +kernel
  exact this ⟨la, by omega⟩ ⟨lb, by omega⟩
theorem TupsIn.nil {K : Int} : TupsIn [] [] K := fun _ h => nomatch h
theorem TupsIn.snoc {tups : List (Addr × Obj)} {os : List Value} {K x : Int} {tt n : Nat} {t1 t2 : Tok} (h : TupsIn tups os K) (h0 : 0 ≤ x) (h1 : x ≤ K) : TupsIn ((tt, tupOf [.int x t1, .int K t2] n) :: tups) (os ++ [.ref tt]) K := fun v hv => by
  rcases List.mem_append.mp hv with hv | hv
  · obtain ⟨t, n, x, t1, t2, e, hm, r⟩ := h v hv
    exact ⟨t, n, x, t1, t2, e, .tail _ hm, r⟩
  · exact ⟨tt, n, x, t1, t2, List.mem_singleton.mp hv, .head _, h0, h1⟩
theorem msj_zero {B : Int} {ns ns2 : List Int} {T D : Addr} {e : Nat} (h : D ≠ T) : MSJ B ns ns2 T 0 D (listOf (List.toArray []) 0) (listOf (List.toArray []) e) [] :=
  ⟨h, (fun _ z => nomatch z), [], 0, [], [], e, rfl, rfl, IntsAre.nil, ⟨Limbs.nil, Norm.nil⟩, by simp [val], rfl, TupsIn.nil⟩
theorem piece_eq {ns : List Int} {i k : Nat} (h : i * k ≤ ns.length) : (ns.drop ((i : Int) * k).toNat).take (min ((i : Int) * k + k).toNat ns.length - ((i : Int) * k).toNat) = (ns.drop (i * k)).take k := by
  have e1 : ((i : Int) * k).toNat = i * k := by rw [← Int.natCast_mul]; rfl
  have e2 : ((i : Int) * k + k).toNat = i * k + k := by rw [← Int.natCast_mul]; rfl
  rw [e1, e2]
  by_cases h2 : i * k + k ≤ ns.length
  · rw [Nat.min_eq_left h2, Nat.add_sub_cancel_left]
  · rw [Nat.min_eq_right (by omega), List.take_of_length_le (by rw [List.length_drop]; exact Nat.le_refl _), List.take_of_length_le (by rw [List.length_drop]; omega)]
theorem prod_short {B : Int} (hB : 1 < B) {a c r : List Int} (ha : Limbs B a) (hc : Limbs B c) (hr : Row B r) (hv : val B r = val B a * val B c) : r.length ≤ a.length + c.length := by
  refine row_short hB hr ?_
  have h0 := val_nonneg (show 0 < B by omega) ha
  have h1 := val_lt (show 0 < B by omega) ha
  have g0 := val_nonneg (show 0 < B by omega) hc
  have g1 := val_lt (show 0 < B by omega) hc
  rw [hv, Int.pow_add]
  have k1 := Int.mul_le_mul_of_nonneg_right (Int.le_of_lt h1) g0
  have k2 := Int.mul_lt_mul_of_pos_left g1 (show 0 < B ^ a.length by omega)
  omega
local macro_rules | `(tactic| walk_at "MSPost") => `(tactic| (dsimp only [MSPost]))
local macro_rules | `(tactic| walk_at "MSEnd") => `(tactic| refine stopHere ?_)
set_option maxHeartbeats 8000000 in
theorem c_mul_slices {Ks : List (Addr × Obj)} {l l2 f T : Addr} {fo : Obj} {vs vs2 : List Value} {ns ns2 : List Int} {e0 : Nat} {wv : Int} {tw : Tok} (G : Gd w p loose mean mg mb b) (hb : b.StaysIn s.heap) (hT0 : b.get? T = none) (hM : MulOk w b Ks f T wv) (hKT : ∀ q ∈ Ks, q.1 ≠ T) (hfK : (f, fo) ∈ Ks) (hfo : IsFn fo)
    (hKs : KeepsAll Ks s.heap) (hT : s.heap.get? T = some (listOf #[] e0)) (hl : s.heap.IsList l vs.toArray) (hl2 : s.heap.IsList l2 vs2.toArray) (hlT : l ≠ T) (hlT2 : l2 ≠ T) (hi : IntsAre vs ns) (hi2 : IntsAre vs2 ns2) (hn : ns.length ≤ 9) (hn0 : 1 ≤ ns2.length) (hn2 : ns2.length ≤ 3)
    (hr : Row (2 ^ wv.toNat) ns) (hr2 : Row (2 ^ wv.toNat) ns2) (hw0 : 1 ≤ wv) (hw1 : wv ≤ 9) :
    codeAny (model PP w) (Ar 965 3400) (.call (.ref 116) ⟨[.ref l, .ref l2, .int wv tw, .ref f], []⟩)
      (Done [T] (MSOut s.heap T (2 ^ wv.toNat) (val (2 ^ wv.toNat) ns * val (2 ^ wv.toNat) ns2) ns2.length) s) s := by
  refine' enter (binds := [(Str.ofString "a", .ref l), (Str.ofString "b", .ref l2), (Str.ofString "w", .int wv tw), (Str.ofString "mul", .ref f)]) G hb [(T, listOf #[] e0)] ?hh ?ho ?hcd ?hr ?hb ?hl ?_ ?c1 ?c2 ?c3 ?c4
  case ho => k_is
  case hcd => k_is
  case hr => first | decide | assumption
  case hb => exact BindsTo.of_eq rfl
  case hl => exact locs rfl
  case c1 => rfl
  case c2 => rfl
  case c3 => rfl
  case c4 => decide
  case hh => exact fun q hq => by rw [List.mem_singleton.mp hq]; exact ⟨hT, hT0⟩
  intro g L h₁ hg F' N' X' T'
  rw [bindsM_eq] at F'
  dsimp only [bindsM, List.reverse, List.reverseAux] at F'
  try dsimp only
  k_fold
  have hlg : g.IsList l vs.toArray := by
    obtain ⟨o, ho, r⟩ := hl
    refine ⟨o, ?_, r⟩
    rw [hg]
    exact hideAll_get _ ho (fun z => hlT (by simpa using z))
  have hlg2 : g.IsList l2 vs2.toArray := by
    obtain ⟨o, ho, r⟩ := hl2
    refine ⟨o, ?_, r⟩
    rw [hg]
    exact hideAll_get _ ho (fun z => hlT2 (by simpa using z))
  have hbg : b.StaysIn g := by rw [hg]; exact hide_keeps hb (by simpa using hT0)
  have hKg : KeepsAll Ks g := fun q hq => by rw [hg]; exact hideAll_get _ (hKs q hq) (fun z => hKT q hq (by simpa using z))
  have hkk : ∀ {h' : Heap} {m' : Str → Option Value}, Fr g L h' m' → Kept [T] s.heap h' := fun F c o hc q => F.keep c o (by rw [hg]; exact hideAll_get _ q (by simpa using hc))
  have hfg : FnAt f g := by
    obtain ⟨oc, od, fd, sl, rfl⟩ := hfo
    exact ⟨oc, od, fd, sl, hKg _ hfK⟩
  have hB1 := base_gt hw0
  have hn100 : ns.length ≤ 100 := by omega
  have hn1002 : ns2.length ≤ 100 := by omega
  have hn20 : ns2.length ≤ 20 := by omega
  obtain ⟨n, hrs, hr1, hr2', hr3⟩ := range_size ns.length ns2.length (by omega)
  k_steps
  repeat' ((first | (refine goOn ?_; k_here; (with_reducible show wpAny _ _ (PySem.call (Value.ref 88) _) _ _ _); (with_reducible rename Fr _ _ _ _ => kFq); (with_reducible rename News _ _ _ _ => kNq); k_dflt (refine' useList (c_piece ⟨?zqgx, ?zqgt⟩ kFq.keep ?zqhl ?zqhi ?zqhn ?zqs0 ?zqs1) kFq kNq rfl (by first | exact Nat.le_of_ble_eq_true rfl | (dsimp only [Ar]; omega)) (by first | exact Nat.le_of_ble_eq_true rfl | (dsimp only [Ar]; omega)) ?_; (case zqgx => with_reducible assumption); (case zqgt => with_reducible assumption); (case zqhl => first | exact Fr.lst kFq (by with_reducible assumption) | exact News.isList kNq (by k_mem)); (case zqhi => with_reducible assumption); (case zqhn => first | with_reducible assumption | exact Nat.le_trans (by with_reducible assumption) (Nat.le_of_ble_eq_true rfl) | omega | (simp only [List.length_take, List.length_drop, List.length_append, List.length_cons, List.length_nil]; omega)); (case zqs0 => first | with_reducible assumption | omega | (simp only [List.length_take, List.length_drop, List.length_append, List.length_cons, List.length_nil]; omega)); (case zqs1 => first | with_reducible assumption | omega | (simp only [List.length_take, List.length_drop, List.length_append, List.length_cons, List.length_nil]; omega))); intro _ _ _ _ _ _ _ _ _ _ _; clear kFq kNq) | (refine goOn ?_; k_here; (with_reducible show wpAny _ _ (PySem.call (Value.ref 74) _) _ _ _); (with_reducible rename Fr _ _ _ _ => kFq); (with_reducible rename News _ _ _ _ => kNq); k_dflt (refine' useList (c_add_at ⟨?zqgx, ?zqgt⟩ kFq.keep ?zqhl ?zqhl2 ?zqhi ?zqhi2 ?zqhn ?zqhn2 ?zqs0 ?zqs1 ?zqw0 ?zqw1 ?zqr1 ?zqr2) kFq kNq rfl (by first | exact Nat.le_of_ble_eq_true rfl | (dsimp only [Ar]; omega)) (by first | exact Nat.le_of_ble_eq_true rfl | (dsimp only [Ar]; omega)) ?_; (case zqgx => assumption); (case zqgt => assumption); (case zqhl => first | exact Fr.lst kFq (by assumption) | exact News.isList kNq (by k_mem)); (case zqhl2 => first | exact Fr.lst kFq (by assumption) | exact News.isList kNq (by k_mem)); (case zqhi => assumption); (case zqhi2 => assumption); (case zqs0 => first | assumption | omega); (case zqs1 => first | assumption | omega); (case zqw0 => assumption); (case zqw1 => assumption); (case zqr1 => assumption); (case zqr2 => assumption); (case zqhn => first | with_reducible assumption | exact Nat.le_trans (by with_reducible assumption) (Nat.le_of_ble_eq_true rfl) | omega | (simp only [List.length_drop]; omega)); (case zqhn2 => first | with_reducible assumption | exact Nat.le_trans (by with_reducible assumption) (Nat.le_of_ble_eq_true rfl) | omega)); intro _ _ _ _ _ _ _ _ _ _ zhP; have _ := zhP.1; have _ := zhP.2.1; have _ := zhP.2.2; clear zhP; clear kFq kNq) | (refine goOn ?_; k_here; (with_reducible show wpAny _ _ (PySem.call (Value.ref _) _) _ _ _); (with_reducible rename Fr _ _ _ _ => kFq); (with_reducible rename News _ _ _ _ => kNq); (with_reducible rename Heap.StaysIn _ _ => kB); (with_reducible rename KeepsAll _ _ => kK); (with_reducible rename MulOk _ _ _ _ _ _ => kC); k_dflt (refine' useMul (kC _ _ _ _ _ _ _ _ _ _ (stays_fr kFq kB) (kK.fr kFq) ?zqhT ?zqtk ?zqhl ?zqhl3 ?zqne ?zqne3 ?zqhi ?zqhi3 ?zqhn ?zqhn3 ?zqr1 ?zqr3) kFq kNq ?zqU rfl (by first | exact Nat.le_of_ble_eq_true rfl | (dsimp only [Ar]; omega)) (by first | exact Nat.le_of_ble_eq_true rfl | (dsimp only [Ar]; omega)) ?_; (case zqhT => exact (kNq (_, _) (by k_mem)).1); (case zqtk => first | with_reducible assumption | omega | (simp only [List.length_take, List.length_drop, List.length_append, List.length_cons, List.length_nil]; omega)); (case zqhl => first | exact Fr.lst kFq (by with_reducible assumption) | exact News.isList kNq (by k_mem)); (case zqhl3 => first | exact Fr.lst kFq (by with_reducible assumption) | exact News.isList kNq (by k_mem)); (case zqne => first | with_reducible assumption | k_ne); (case zqne3 => first | with_reducible assumption | k_ne); (case zqhi => with_reducible assumption); (case zqhi3 => with_reducible assumption); (case zqhn => first | with_reducible assumption | exact Nat.le_trans (by with_reducible assumption) (Nat.le_of_ble_eq_true rfl) | omega | (simp only [List.length_take, List.length_drop, List.length_append, List.length_cons, List.length_nil]; omega)); (case zqhn3 => first | with_reducible assumption | exact Nat.le_trans (by with_reducible assumption) (Nat.le_of_ble_eq_true rfl) | omega | (simp only [List.length_take, List.length_drop, List.length_append, List.length_cons, List.length_nil]; omega)); (case zqr1 => with_reducible assumption); (case zqr3 => with_reducible assumption); (case zqU => exact UpdF.tail (by k_ne) (UpdF.head (by with_reducible assumption)))); intro _ _ _ _ _ _ _ _ _ _ _ _ kNn; (try dsimp only [List.append] at kNn); revert kNn; intro _ _ _ _ _ _) | (refine goOn ?_; k_dflt (refine' kmk_slice_ints ?zqF ?zqN ?zql ?zqp ?zqq ?zqi ?zqm rfl ?_ ?zqs ?zqt ?zqz; (case zqF => k_asm); (case zqN => k_asm); (case zql => first | exact Fr.lst (by assumption) (by assumption) | exact News.isList (by assumption) (by k_mem)); (case zqp => kmk_part); (case zqq => kmk_part); (case zqi => assumption); (case zqm => first | exact kmk_all (by assumption) | exact kmk_from (by assumption) (by first | assumption | omega) | exact kmk_upto (by assumption) (by first | assumption | omega) | exact kmk_run (by assumption) (by first | assumption | omega) (by first | assumption | omega)); (case zqs => with_unfolding_all rfl); (case zqt => kmk_pure); (case zqz => exact sz_ok (by assumption) (by omega))); intro _ _ _ _ _ zl1 _ zhC zhL; (try k_lt zl1); (try k_sweep); clear zhC zhL) | (refine goOn ?_; with_reducible rename Fr _ _ _ _ => kFq; with_reducible rename News _ _ _ _ => kNq; k_dflt (refine' appD kFq kNq ?zqo ?zqz ?_; (case zqo => first | exact offOne (by assumption) | exact offNil | assumption); (case zqz => first | assumption | omega)); intro _ _ _; clear kFq kNq) | fail); (try k_steps))
  unfold Stop
  rename Fr _ _ _ _ => F'
  refine For_invVF F' (by rfl) (by rfl) ?_
  k_steps
  repeat' ((first | (refine goOn ?_; k_here; (with_reducible show wpAny _ _ (PySem.call (Value.ref 88) _) _ _ _); (with_reducible rename Fr _ _ _ _ => kFq); (with_reducible rename News _ _ _ _ => kNq); k_dflt (refine' useList (c_piece ⟨?zqgx, ?zqgt⟩ kFq.keep ?zqhl ?zqhi ?zqhn ?zqs0 ?zqs1) kFq kNq rfl (by first | exact Nat.le_of_ble_eq_true rfl | (dsimp only [Ar]; omega)) (by first | exact Nat.le_of_ble_eq_true rfl | (dsimp only [Ar]; omega)) ?_; (case zqgx => with_reducible assumption); (case zqgt => with_reducible assumption); (case zqhl => first | exact Fr.lst kFq (by with_reducible assumption) | exact News.isList kNq (by k_mem)); (case zqhi => with_reducible assumption); (case zqhn => first | with_reducible assumption | exact Nat.le_trans (by with_reducible assumption) (Nat.le_of_ble_eq_true rfl) | omega | (simp only [List.length_take, List.length_drop, List.length_append, List.length_cons, List.length_nil]; omega)); (case zqs0 => first | with_reducible assumption | omega | (simp only [List.length_take, List.length_drop, List.length_append, List.length_cons, List.length_nil]; omega)); (case zqs1 => first | with_reducible assumption | omega | (simp only [List.length_take, List.length_drop, List.length_append, List.length_cons, List.length_nil]; omega))); intro _ _ _ _ _ _ _ _ _ _ _; clear kFq kNq) | (refine goOn ?_; k_here; (with_reducible show wpAny _ _ (PySem.call (Value.ref 74) _) _ _ _); (with_reducible rename Fr _ _ _ _ => kFq); (with_reducible rename News _ _ _ _ => kNq); k_dflt (refine' useList (c_add_at ⟨?zqgx, ?zqgt⟩ kFq.keep ?zqhl ?zqhl2 ?zqhi ?zqhi2 ?zqhn ?zqhn2 ?zqs0 ?zqs1 ?zqw0 ?zqw1 ?zqr1 ?zqr2) kFq kNq rfl (by first | exact Nat.le_of_ble_eq_true rfl | (dsimp only [Ar]; omega)) (by first | exact Nat.le_of_ble_eq_true rfl | (dsimp only [Ar]; omega)) ?_; (case zqgx => assumption); (case zqgt => assumption); (case zqhl => first | exact Fr.lst kFq (by assumption) | exact News.isList kNq (by k_mem)); (case zqhl2 => first | exact Fr.lst kFq (by assumption) | exact News.isList kNq (by k_mem)); (case zqhi => assumption); (case zqhi2 => assumption); (case zqs0 => first | assumption | omega); (case zqs1 => first | assumption | omega); (case zqw0 => assumption); (case zqw1 => assumption); (case zqr1 => assumption); (case zqr2 => assumption); (case zqhn => first | with_reducible assumption | exact Nat.le_trans (by with_reducible assumption) (Nat.le_of_ble_eq_true rfl) | omega | (simp only [List.length_drop]; omega)); (case zqhn2 => first | with_reducible assumption | exact Nat.le_trans (by with_reducible assumption) (Nat.le_of_ble_eq_true rfl) | omega)); intro _ _ _ _ _ _ _ _ _ _ zhP; have _ := zhP.1; have _ := zhP.2.1; have _ := zhP.2.2; clear zhP; clear kFq kNq) | (refine goOn ?_; k_here; (with_reducible show wpAny _ _ (PySem.call (Value.ref _) _) _ _ _); (with_reducible rename Fr _ _ _ _ => kFq); (with_reducible rename News _ _ _ _ => kNq); (with_reducible rename Heap.StaysIn _ _ => kB); (with_reducible rename KeepsAll _ _ => kK); (with_reducible rename MulOk _ _ _ _ _ _ => kC); k_dflt (refine' useMul (kC _ _ _ _ _ _ _ _ _ _ (stays_fr kFq kB) (kK.fr kFq) ?zqhT ?zqtk ?zqhl ?zqhl3 ?zqne ?zqne3 ?zqhi ?zqhi3 ?zqhn ?zqhn3 ?zqr1 ?zqr3) kFq kNq ?zqU rfl (by first | exact Nat.le_of_ble_eq_true rfl | (dsimp only [Ar]; omega)) (by first | exact Nat.le_of_ble_eq_true rfl | (dsimp only [Ar]; omega)) ?_; (case zqhT => exact (kNq (_, _) (by k_mem)).1); (case zqtk => first | with_reducible assumption | omega | (simp only [List.length_take, List.length_drop, List.length_append, List.length_cons, List.length_nil]; omega)); (case zqhl => first | exact Fr.lst kFq (by with_reducible assumption) | exact News.isList kNq (by k_mem)); (case zqhl3 => first | exact Fr.lst kFq (by with_reducible assumption) | exact News.isList kNq (by k_mem)); (case zqne => first | with_reducible assumption | k_ne); (case zqne3 => first | with_reducible assumption | k_ne); (case zqhi => with_reducible assumption); (case zqhi3 => with_reducible assumption); (case zqhn => first | with_reducible assumption | exact Nat.le_trans (by with_reducible assumption) (Nat.le_of_ble_eq_true rfl) | omega | (simp only [List.length_take, List.length_drop, List.length_append, List.length_cons, List.length_nil]; omega)); (case zqhn3 => first | with_reducible assumption | exact Nat.le_trans (by with_reducible assumption) (Nat.le_of_ble_eq_true rfl) | omega | (simp only [List.length_take, List.length_drop, List.length_append, List.length_cons, List.length_nil]; omega)); (case zqr1 => with_reducible assumption); (case zqr3 => with_reducible assumption); (case zqU => exact UpdF.tail (by k_ne) (UpdF.head (by with_reducible assumption)))); intro _ _ _ _ _ _ _ _ _ _ _ _ kNn; (try dsimp only [List.append] at kNn); revert kNn; intro _ _ _ _ _ _) | (refine goOn ?_; k_dflt (refine' kmk_slice_ints ?zqF ?zqN ?zql ?zqp ?zqq ?zqi ?zqm rfl ?_ ?zqs ?zqt ?zqz; (case zqF => k_asm); (case zqN => k_asm); (case zql => first | exact Fr.lst (by assumption) (by assumption) | exact News.isList (by assumption) (by k_mem)); (case zqp => kmk_part); (case zqq => kmk_part); (case zqi => assumption); (case zqm => first | exact kmk_all (by assumption) | exact kmk_from (by assumption) (by first | assumption | omega) | exact kmk_upto (by assumption) (by first | assumption | omega) | exact kmk_run (by assumption) (by first | assumption | omega) (by first | assumption | omega)); (case zqs => with_unfolding_all rfl); (case zqt => kmk_pure); (case zqz => exact sz_ok (by assumption) (by omega))); intro _ _ _ _ _ zl1 _ zhC zhL; (try k_lt zl1); (try k_sweep); clear zhC zhL) | (refine goOn ?_; with_reducible rename Fr _ _ _ _ => kFq; with_reducible rename News _ _ _ _ => kNq; k_dflt (refine' appD kFq kNq ?zqo ?zqz ?_; (case zqo => first | exact offOne (by assumption) | exact offNil | assumption); (case zqz => first | assumption | omega)); intro _ _ _; clear kFq kNq) | fail); (try k_steps))
  unfold Stop
  dsimp only
  rename IsRange _ _ _ _ _ _ _ _ => R'
  rename Fr _ _ _ _ => F2
  rename News _ _ _ _ => N2
  refine' loopMS (n := n) (T := T) (Str.ofString "found") (by decide) (MSJ (2 ^ wv.toNat) ns ns2 T) (fun h => h.off) rfl R' (small_range hn hn2) hrs F2 N2 rfl (msj_zero ?dt) ?_ ?_
  case dt => k_ne
  · clear F2 N2 R'
    rintro i D oD oT tups t h tk tl own hin ⟨hDT, htT, us, c, ms, os, e, rfl, rfl, hii, hrm, hvm, hol, htp⟩ hown htups hapart hT2 F2 N2
    try dsimp only at *
    k_fold
    have hTT : ∀ q ∈ (D, listOf (List.toArray us) c) :: tl, q.1 ≠ T := hT2
    have hol2 : os.length ≤ 100 := by omega
    have hat := hr3 i hin
    have hai : (i : Int) * (ns2.length : Int) = ((i * ns2.length : Nat) : Int) := (Int.natCast_mul _ _).symm
    have hat0 : 0 ≤ (i : Int) * (ns2.length : Int) := by omega
    have hat1 : (i : Int) * (ns2.length : Int) ≤ 100 := by omega
    have hat2 : 0 ≤ (i : Int) * (ns2.length : Int) + (ns2.length : Int) := by omega
    k_steps
    repeat' ((first | (refine goOn ?_; k_here; (with_reducible show wpAny _ _ (PySem.call (Value.ref 88) _) _ _ _); (with_reducible rename Fr _ _ _ _ => kFq); (with_reducible rename News _ _ _ _ => kNq); k_dflt (refine' useList (c_piece ⟨?zqgx, ?zqgt⟩ kFq.keep ?zqhl ?zqhi ?zqhn ?zqs0 ?zqs1) kFq kNq rfl (by first | exact Nat.le_of_ble_eq_true rfl | (dsimp only [Ar]; omega)) (by first | exact Nat.le_of_ble_eq_true rfl | (dsimp only [Ar]; omega)) ?_; (case zqgx => with_reducible assumption); (case zqgt => with_reducible assumption); (case zqhl => first | exact Fr.lst kFq (by with_reducible assumption) | exact News.isList kNq (by k_mem)); (case zqhi => with_reducible assumption); (case zqhn => first | with_reducible assumption | exact Nat.le_trans (by with_reducible assumption) (Nat.le_of_ble_eq_true rfl) | omega | (simp only [List.length_take, List.length_drop, List.length_append, List.length_cons, List.length_nil]; omega)); (case zqs0 => first | with_reducible assumption | omega | (simp only [List.length_take, List.length_drop, List.length_append, List.length_cons, List.length_nil]; omega)); (case zqs1 => first | with_reducible assumption | omega | (simp only [List.length_take, List.length_drop, List.length_append, List.length_cons, List.length_nil]; omega))); intro _ _ _ _ _ _ _ _ _ _ _; clear kFq kNq) | (refine goOn ?_; k_here; (with_reducible show wpAny _ _ (PySem.call (Value.ref 74) _) _ _ _); (with_reducible rename Fr _ _ _ _ => kFq); (with_reducible rename News _ _ _ _ => kNq); k_dflt (refine' useList (c_add_at ⟨?zqgx, ?zqgt⟩ kFq.keep ?zqhl ?zqhl2 ?zqhi ?zqhi2 ?zqhn ?zqhn2 ?zqs0 ?zqs1 ?zqw0 ?zqw1 ?zqr1 ?zqr2) kFq kNq rfl (by first | exact Nat.le_of_ble_eq_true rfl | (dsimp only [Ar]; omega)) (by first | exact Nat.le_of_ble_eq_true rfl | (dsimp only [Ar]; omega)) ?_; (case zqgx => assumption); (case zqgt => assumption); (case zqhl => first | exact Fr.lst kFq (by assumption) | exact News.isList kNq (by k_mem)); (case zqhl2 => first | exact Fr.lst kFq (by assumption) | exact News.isList kNq (by k_mem)); (case zqhi => assumption); (case zqhi2 => assumption); (case zqs0 => first | assumption | omega); (case zqs1 => first | assumption | omega); (case zqw0 => assumption); (case zqw1 => assumption); (case zqr1 => assumption); (case zqr2 => assumption); (case zqhn => first | with_reducible assumption | exact Nat.le_trans (by with_reducible assumption) (Nat.le_of_ble_eq_true rfl) | omega | (simp only [List.length_drop]; omega)); (case zqhn2 => first | with_reducible assumption | exact Nat.le_trans (by with_reducible assumption) (Nat.le_of_ble_eq_true rfl) | omega)); intro _ _ _ _ _ _ _ _ _ _ zhP; have _ := zhP.1; have _ := zhP.2.1; have _ := zhP.2.2; clear zhP; clear kFq kNq) | (refine goOn ?_; k_here; (with_reducible show wpAny _ _ (PySem.call (Value.ref _) _) _ _ _); (with_reducible rename Fr _ _ _ _ => kFq); (with_reducible rename News _ _ _ _ => kNq); (with_reducible rename Heap.StaysIn _ _ => kB); (with_reducible rename KeepsAll _ _ => kK); (with_reducible rename MulOk _ _ _ _ _ _ => kC); k_dflt (refine' useMul (kC _ _ _ _ _ _ _ _ _ _ (stays_fr kFq kB) (kK.fr kFq) ?zqhT ?zqtk ?zqhl ?zqhl3 ?zqne ?zqne3 ?zqhi ?zqhi3 ?zqhn ?zqhn3 ?zqr1 ?zqr3) kFq kNq ?zqU rfl (by first | exact Nat.le_of_ble_eq_true rfl | (dsimp only [Ar]; omega)) (by first | exact Nat.le_of_ble_eq_true rfl | (dsimp only [Ar]; omega)) ?_; (case zqhT => exact (kNq (_, _) (by k_mem)).1); (case zqtk => first | with_reducible assumption | omega | (simp only [List.length_take, List.length_drop, List.length_append, List.length_cons, List.length_nil]; omega)); (case zqhl => first | exact Fr.lst kFq (by with_reducible assumption) | exact News.isList kNq (by k_mem)); (case zqhl3 => first | exact Fr.lst kFq (by with_reducible assumption) | exact News.isList kNq (by k_mem)); (case zqne => first | with_reducible assumption | k_ne); (case zqne3 => first | with_reducible assumption | k_ne); (case zqhi => with_reducible assumption); (case zqhi3 => with_reducible assumption); (case zqhn => first | with_reducible assumption | exact Nat.le_trans (by with_reducible assumption) (Nat.le_of_ble_eq_true rfl) | omega | (simp only [List.length_take, List.length_drop, List.length_append, List.length_cons, List.length_nil]; omega)); (case zqhn3 => first | with_reducible assumption | exact Nat.le_trans (by with_reducible assumption) (Nat.le_of_ble_eq_true rfl) | omega | (simp only [List.length_take, List.length_drop, List.length_append, List.length_cons, List.length_nil]; omega)); (case zqr1 => with_reducible assumption); (case zqr3 => with_reducible assumption); (case zqU => exact UpdF.tail (by k_ne) (UpdF.head (by with_reducible assumption)))); intro _ _ _ _ _ _ _ _ _ _ _ _ kNn; (try dsimp only [List.append] at kNn); revert kNn; intro _ _ _ _ _ _) | (refine goOn ?_; k_dflt (refine' kmk_slice_ints ?zqF ?zqN ?zql ?zqp ?zqq ?zqi ?zqm rfl ?_ ?zqs ?zqt ?zqz; (case zqF => k_asm); (case zqN => k_asm); (case zql => first | exact Fr.lst (by assumption) (by assumption) | exact News.isList (by assumption) (by k_mem)); (case zqp => kmk_part); (case zqq => kmk_part); (case zqi => assumption); (case zqm => first | exact kmk_all (by assumption) | exact kmk_from (by assumption) (by first | assumption | omega) | exact kmk_upto (by assumption) (by first | assumption | omega) | exact kmk_run (by assumption) (by first | assumption | omega) (by first | assumption | omega)); (case zqs => with_unfolding_all rfl); (case zqt => kmk_pure); (case zqz => exact sz_ok (by assumption) (by omega))); intro _ _ _ _ _ zl1 _ zhC zhL; (try k_lt zl1); (try k_sweep); clear zhC zhL) | (refine goOn ?_; with_reducible rename Fr _ _ _ _ => kFq; with_reducible rename News _ _ _ _ => kNq; k_dflt (refine' appD kFq kNq ?zqo ?zqz ?_; (case zqo => first | exact offOne (by assumption) | exact offNil | assumption); (case zqz => first | assumption | omega)); intro _ _ _; clear kFq kNq) | fail); (try k_steps))
    rename Nrm _ _ => hP
    rename List Int => msp
    rw [piece_eq (by omega)] at hP
    have hPr := hP.row ((hr.1.drop _).take _)
    have hPv := hP.val (2 ^ wv.toNat)
    have hPl := hP.len
    have hPl2 := List.length_take_le ns2.length (ns.drop (i * ns2.length))
    have hPl3 := Nat.le_trans hPl hPl2
    have hml := prod_short hB1 (hr.1.take _) hr2.1 hrm hvm
    have hml2 := List.length_take_le' (i * ns2.length) ns
    have hml3 : ms.length ≤ 100 := by omega
    k_steps
    repeat' ((first | (refine goOn ?_; k_here; (with_reducible show wpAny _ _ (PySem.call (Value.ref 88) _) _ _ _); (with_reducible rename Fr _ _ _ _ => kFq); (with_reducible rename News _ _ _ _ => kNq); k_dflt (refine' useList (c_piece ⟨?zqgx, ?zqgt⟩ kFq.keep ?zqhl ?zqhi ?zqhn ?zqs0 ?zqs1) kFq kNq rfl (by first | exact Nat.le_of_ble_eq_true rfl | (dsimp only [Ar]; omega)) (by first | exact Nat.le_of_ble_eq_true rfl | (dsimp only [Ar]; omega)) ?_; (case zqgx => with_reducible assumption); (case zqgt => with_reducible assumption); (case zqhl => first | exact Fr.lst kFq (by with_reducible assumption) | exact News.isList kNq (by k_mem)); (case zqhi => with_reducible assumption); (case zqhn => first | with_reducible assumption | exact Nat.le_trans (by with_reducible assumption) (Nat.le_of_ble_eq_true rfl) | omega | (simp only [List.length_take, List.length_drop, List.length_append, List.length_cons, List.length_nil]; omega)); (case zqs0 => first | with_reducible assumption | omega | (simp only [List.length_take, List.length_drop, List.length_append, List.length_cons, List.length_nil]; omega)); (case zqs1 => first | with_reducible assumption | omega | (simp only [List.length_take, List.length_drop, List.length_append, List.length_cons, List.length_nil]; omega))); intro _ _ _ _ _ _ _ _ _ _ _; clear kFq kNq) | (refine goOn ?_; k_here; (with_reducible show wpAny _ _ (PySem.call (Value.ref 74) _) _ _ _); (with_reducible rename Fr _ _ _ _ => kFq); (with_reducible rename News _ _ _ _ => kNq); k_dflt (refine' useList (c_add_at ⟨?zqgx, ?zqgt⟩ kFq.keep ?zqhl ?zqhl2 ?zqhi ?zqhi2 ?zqhn ?zqhn2 ?zqs0 ?zqs1 ?zqw0 ?zqw1 ?zqr1 ?zqr2) kFq kNq rfl (by first | exact Nat.le_of_ble_eq_true rfl | (dsimp only [Ar]; omega)) (by first | exact Nat.le_of_ble_eq_true rfl | (dsimp only [Ar]; omega)) ?_; (case zqgx => assumption); (case zqgt => assumption); (case zqhl => first | exact Fr.lst kFq (by assumption) | exact News.isList kNq (by k_mem)); (case zqhl2 => first | exact Fr.lst kFq (by assumption) | exact News.isList kNq (by k_mem)); (case zqhi => assumption); (case zqhi2 => assumption); (case zqs0 => first | assumption | omega); (case zqs1 => first | assumption | omega); (case zqw0 => assumption); (case zqw1 => assumption); (case zqr1 => assumption); (case zqr2 => assumption); (case zqhn => first | with_reducible assumption | exact Nat.le_trans (by with_reducible assumption) (Nat.le_of_ble_eq_true rfl) | omega | (simp only [List.length_drop]; omega)); (case zqhn2 => first | with_reducible assumption | exact Nat.le_trans (by with_reducible assumption) (Nat.le_of_ble_eq_true rfl) | omega)); intro _ _ _ _ _ _ _ _ _ _ zhP; have _ := zhP.1; have _ := zhP.2.1; have _ := zhP.2.2; clear zhP; clear kFq kNq) | (refine goOn ?_; k_here; (with_reducible show wpAny _ _ (PySem.call (Value.ref _) _) _ _ _); (with_reducible rename Fr _ _ _ _ => kFq); (with_reducible rename News _ _ _ _ => kNq); (with_reducible rename Heap.StaysIn _ _ => kB); (with_reducible rename KeepsAll _ _ => kK); (with_reducible rename MulOk _ _ _ _ _ _ => kC); k_dflt (refine' useMul (kC _ _ _ _ _ _ _ _ _ _ (stays_fr kFq kB) (kK.fr kFq) ?zqhT ?zqtk ?zqhl ?zqhl3 ?zqne ?zqne3 ?zqhi ?zqhi3 ?zqhn ?zqhn3 ?zqr1 ?zqr3) kFq kNq ?zqU rfl (by first | exact Nat.le_of_ble_eq_true rfl | (dsimp only [Ar]; omega)) (by first | exact Nat.le_of_ble_eq_true rfl | (dsimp only [Ar]; omega)) ?_; (case zqhT => exact (kNq (_, _) (by k_mem)).1); (case zqtk => first | with_reducible assumption | omega | (simp only [List.length_take, List.length_drop, List.length_append, List.length_cons, List.length_nil]; omega)); (case zqhl => first | exact Fr.lst kFq (by with_reducible assumption) | exact News.isList kNq (by k_mem)); (case zqhl3 => first | exact Fr.lst kFq (by with_reducible assumption) | exact News.isList kNq (by k_mem)); (case zqne => first | with_reducible assumption | k_ne); (case zqne3 => first | with_reducible assumption | k_ne); (case zqhi => with_reducible assumption); (case zqhi3 => with_reducible assumption); (case zqhn => first | with_reducible assumption | exact Nat.le_trans (by with_reducible assumption) (Nat.le_of_ble_eq_true rfl) | omega | (simp only [List.length_take, List.length_drop, List.length_append, List.length_cons, List.length_nil]; omega)); (case zqhn3 => first | with_reducible assumption | exact Nat.le_trans (by with_reducible assumption) (Nat.le_of_ble_eq_true rfl) | omega | (simp only [List.length_take, List.length_drop, List.length_append, List.length_cons, List.length_nil]; omega)); (case zqr1 => with_reducible assumption); (case zqr3 => with_reducible assumption); (case zqU => exact UpdF.tail (by k_ne) (UpdF.head (by with_reducible assumption)))); intro _ _ _ _ _ _ _ _ _ _ _ _ kNn; (try dsimp only [List.append] at kNn); revert kNn; intro _ _ _ _ _ _) | (refine goOn ?_; k_dflt (refine' kmk_slice_ints ?zqF ?zqN ?zql ?zqp ?zqq ?zqi ?zqm rfl ?_ ?zqs ?zqt ?zqz; (case zqF => k_asm); (case zqN => k_asm); (case zql => first | exact Fr.lst (by assumption) (by assumption) | exact News.isList (by assumption) (by k_mem)); (case zqp => kmk_part); (case zqq => kmk_part); (case zqi => assumption); (case zqm => first | exact kmk_all (by assumption) | exact kmk_from (by assumption) (by first | assumption | omega) | exact kmk_upto (by assumption) (by first | assumption | omega) | exact kmk_run (by assumption) (by first | assumption | omega) (by first | assumption | omega)); (case zqs => with_unfolding_all rfl); (case zqt => kmk_pure); (case zqz => exact sz_ok (by assumption) (by omega))); intro _ _ _ _ _ zl1 _ zhC zhL; (try k_lt zl1); (try k_sweep); clear zhC zhL) | (refine goOn ?_; with_reducible rename Fr _ _ _ _ => kFq; with_reducible rename News _ _ _ _ => kNq; k_dflt (refine' appD kFq kNq ?zqo ?zqz ?_; (case zqo => first | exact offOne (by assumption) | exact offNil | assumption); (case zqz => first | assumption | omega)); intro _ _ _; clear kFq kNq) | fail); (try k_steps))
    rename val _ _ = val _ _ * val _ _ => hVp
    have hpl := prod_short hB1 hPr.1 hr2.1 (by assumption) hVp
    k_steps
    repeat' ((first | (refine goOn ?_; k_here; (with_reducible show wpAny _ _ (PySem.call (Value.ref 88) _) _ _ _); (with_reducible rename Fr _ _ _ _ => kFq); (with_reducible rename News _ _ _ _ => kNq); k_dflt (refine' useList (c_piece ⟨?zqgx, ?zqgt⟩ kFq.keep ?zqhl ?zqhi ?zqhn ?zqs0 ?zqs1) kFq kNq rfl (by first | exact Nat.le_of_ble_eq_true rfl | (dsimp only [Ar]; omega)) (by first | exact Nat.le_of_ble_eq_true rfl | (dsimp only [Ar]; omega)) ?_; (case zqgx => with_reducible assumption); (case zqgt => with_reducible assumption); (case zqhl => first | exact Fr.lst kFq (by with_reducible assumption) | exact News.isList kNq (by k_mem)); (case zqhi => with_reducible assumption); (case zqhn => first | with_reducible assumption | exact Nat.le_trans (by with_reducible assumption) (Nat.le_of_ble_eq_true rfl) | omega | (simp only [List.length_take, List.length_drop, List.length_append, List.length_cons, List.length_nil]; omega)); (case zqs0 => first | with_reducible assumption | omega | (simp only [List.length_take, List.length_drop, List.length_append, List.length_cons, List.length_nil]; omega)); (case zqs1 => first | with_reducible assumption | omega | (simp only [List.length_take, List.length_drop, List.length_append, List.length_cons, List.length_nil]; omega))); intro _ _ _ _ _ _ _ _ _ _ _; clear kFq kNq) | (refine goOn ?_; k_here; (with_reducible show wpAny _ _ (PySem.call (Value.ref 74) _) _ _ _); (with_reducible rename Fr _ _ _ _ => kFq); (with_reducible rename News _ _ _ _ => kNq); k_dflt (refine' useList (c_add_at ⟨?zqgx, ?zqgt⟩ kFq.keep ?zqhl ?zqhl2 ?zqhi ?zqhi2 ?zqhn ?zqhn2 ?zqs0 ?zqs1 ?zqw0 ?zqw1 ?zqr1 ?zqr2) kFq kNq rfl (by first | exact Nat.le_of_ble_eq_true rfl | (dsimp only [Ar]; omega)) (by first | exact Nat.le_of_ble_eq_true rfl | (dsimp only [Ar]; omega)) ?_; (case zqgx => assumption); (case zqgt => assumption); (case zqhl => first | exact Fr.lst kFq (by assumption) | exact News.isList kNq (by k_mem)); (case zqhl2 => first | exact Fr.lst kFq (by assumption) | exact News.isList kNq (by k_mem)); (case zqhi => assumption); (case zqhi2 => assumption); (case zqs0 => first | assumption | omega); (case zqs1 => first | assumption | omega); (case zqw0 => assumption); (case zqw1 => assumption); (case zqr1 => assumption); (case zqr2 => assumption); (case zqhn => first | with_reducible assumption | exact Nat.le_trans (by with_reducible assumption) (Nat.le_of_ble_eq_true rfl) | omega | (simp only [List.length_drop]; omega)); (case zqhn2 => first | with_reducible assumption | exact Nat.le_trans (by with_reducible assumption) (Nat.le_of_ble_eq_true rfl) | omega)); intro _ _ _ _ _ _ _ _ _ _ zhP; have _ := zhP.1; have _ := zhP.2.1; have _ := zhP.2.2; clear zhP; clear kFq kNq) | (refine goOn ?_; k_here; (with_reducible show wpAny _ _ (PySem.call (Value.ref _) _) _ _ _); (with_reducible rename Fr _ _ _ _ => kFq); (with_reducible rename News _ _ _ _ => kNq); (with_reducible rename Heap.StaysIn _ _ => kB); (with_reducible rename KeepsAll _ _ => kK); (with_reducible rename MulOk _ _ _ _ _ _ => kC); k_dflt (refine' useMul (kC _ _ _ _ _ _ _ _ _ _ (stays_fr kFq kB) (kK.fr kFq) ?zqhT ?zqtk ?zqhl ?zqhl3 ?zqne ?zqne3 ?zqhi ?zqhi3 ?zqhn ?zqhn3 ?zqr1 ?zqr3) kFq kNq ?zqU rfl (by first | exact Nat.le_of_ble_eq_true rfl | (dsimp only [Ar]; omega)) (by first | exact Nat.le_of_ble_eq_true rfl | (dsimp only [Ar]; omega)) ?_; (case zqhT => exact (kNq (_, _) (by k_mem)).1); (case zqtk => first | with_reducible assumption | omega | (simp only [List.length_take, List.length_drop, List.length_append, List.length_cons, List.length_nil]; omega)); (case zqhl => first | exact Fr.lst kFq (by with_reducible assumption) | exact News.isList kNq (by k_mem)); (case zqhl3 => first | exact Fr.lst kFq (by with_reducible assumption) | exact News.isList kNq (by k_mem)); (case zqne => first | with_reducible assumption | k_ne); (case zqne3 => first | with_reducible assumption | k_ne); (case zqhi => with_reducible assumption); (case zqhi3 => with_reducible assumption); (case zqhn => first | with_reducible assumption | exact Nat.le_trans (by with_reducible assumption) (Nat.le_of_ble_eq_true rfl) | omega | (simp only [List.length_take, List.length_drop, List.length_append, List.length_cons, List.length_nil]; omega)); (case zqhn3 => first | with_reducible assumption | exact Nat.le_trans (by with_reducible assumption) (Nat.le_of_ble_eq_true rfl) | omega | (simp only [List.length_take, List.length_drop, List.length_append, List.length_cons, List.length_nil]; omega)); (case zqr1 => with_reducible assumption); (case zqr3 => with_reducible assumption); (case zqU => exact UpdF.tail (by k_ne) (UpdF.head (by with_reducible assumption)))); intro _ _ _ _ _ _ _ _ _ _ _ _ kNn; (try dsimp only [List.append] at kNn); revert kNn; intro _ _ _ _ _ _) | (refine goOn ?_; k_dflt (refine' kmk_slice_ints ?zqF ?zqN ?zql ?zqp ?zqq ?zqi ?zqm rfl ?_ ?zqs ?zqt ?zqz; (case zqF => k_asm); (case zqN => k_asm); (case zql => first | exact Fr.lst (by assumption) (by assumption) | exact News.isList (by assumption) (by k_mem)); (case zqp => kmk_part); (case zqq => kmk_part); (case zqi => assumption); (case zqm => first | exact kmk_all (by assumption) | exact kmk_from (by assumption) (by first | assumption | omega) | exact kmk_upto (by assumption) (by first | assumption | omega) | exact kmk_run (by assumption) (by first | assumption | omega) (by first | assumption | omega)); (case zqs => with_unfolding_all rfl); (case zqt => kmk_pure); (case zqz => exact sz_ok (by assumption) (by omega))); intro _ _ _ _ _ zl1 _ zhC zhL; (try k_lt zl1); (try k_sweep); clear zhC zhL) | (refine goOn ?_; with_reducible rename Fr _ _ _ _ => kFq; with_reducible rename News _ _ _ _ => kNq; k_dflt (refine' appD kFq kNq ?zqo ?zqz ?_; (case zqo => first | exact offOne (by assumption) | exact offNil | assumption); (case zqz => first | assumption | omega)); intro _ _ _; clear kFq kNq) | fail); (try k_steps))
    unfold Stop
    rename Fr _ _ _ _ => F5
    rename News _ _ _ _ => N5
    rename AwayFrom _ _ => ne5
    revert ne5
    rename AwayFrom _ _ => nett
    intro ne5
    rename_i tt n5 t1 t2 e5 h4 tk4 ne4 hI4 hR4 D5 us5 c5 ms5 h5 tk5 kF5 kN5 hI5 hR5 hV5 hL5 h6
    have e1 : ((i : Int) * ns2.length).toNat = i * ns2.length := by rw [hai]; rfl
    refine ⟨h6, _, D5, _, _, (tt, tupOf [.int (msp.length : Int) t1, .int (ns2.length : Int) t2] n5) :: tups, _, _, rfl, F5, N5, .head _, .tail _ (.tail _ (.tail _ (.tail _ (.head _)))), fun q hq => .tail _ (.tail _ (.tail _ (.tail _ (.tail _ (.tail _ (hown q hq)))))), fun q hq => ?_, fun q hq => ?_, fun q hq z hz => ?_, rfl, fun z h1 h2 => ?_,
      (ne5.ne (.tail _ (.tail _ (.tail _ (.head _))))).symm, fun q hq => ?_, us5, c5, ms5, _, _, rfl, rfl, hI5, hR5, ?_, ?_, TupsIn.snoc htp ?_ ?_⟩
    · rcases List.mem_cons.mp hq with rfl | hq
      · exact .tail _ (.tail _ (.head _))
      · exact .tail _ (.tail _ (.tail _ (.tail _ (.tail _ (.tail _ (htups q hq))))))
    · exact (ne5 q (.tail _ (.tail _ (.tail _ (.tail _ (.tail _ (hown q hq))))))).symm
    · rcases List.mem_cons.mp hz with rfl | hz
      · exact (nett q (.tail _ (.tail _ (.tail _ (hown q hq))))).symm
      · exact hapart q hq z hz
    · simp [h1, h2]
    · rcases List.mem_cons.mp hq with rfl | hq
      · exact (nett.ne (.tail _ (.head _))).symm
      · exact htT q hq
    · rw [hV5, hvm, hVp, slice_step (by omega) hPv, Int.add_mul, Int.mul_assoc, e1]
    · rw [List.length_append, hol]; rfl
    · omega
    · omega
  · rintro D oD oT tups u h tk ⟨hDT, htT, us, c, ms, os, e, rfl, rfl, hii, hrm, hvm, hol, htp⟩ F6 N6
    dsimp only
    k_steps
    repeat' ((first | (refine goOn ?_; k_here; (with_reducible show wpAny _ _ (PySem.call (Value.ref 88) _) _ _ _); (with_reducible rename Fr _ _ _ _ => kFq); (with_reducible rename News _ _ _ _ => kNq); k_dflt (refine' useList (c_piece ⟨?zqgx, ?zqgt⟩ kFq.keep ?zqhl ?zqhi ?zqhn ?zqs0 ?zqs1) kFq kNq rfl (by first | exact Nat.le_of_ble_eq_true rfl | (dsimp only [Ar]; omega)) (by first | exact Nat.le_of_ble_eq_true rfl | (dsimp only [Ar]; omega)) ?_; (case zqgx => with_reducible assumption); (case zqgt => with_reducible assumption); (case zqhl => first | exact Fr.lst kFq (by with_reducible assumption) | exact News.isList kNq (by k_mem)); (case zqhi => with_reducible assumption); (case zqhn => first | with_reducible assumption | exact Nat.le_trans (by with_reducible assumption) (Nat.le_of_ble_eq_true rfl) | omega | (simp only [List.length_take, List.length_drop, List.length_append, List.length_cons, List.length_nil]; omega)); (case zqs0 => first | with_reducible assumption | omega | (simp only [List.length_take, List.length_drop, List.length_append, List.length_cons, List.length_nil]; omega)); (case zqs1 => first | with_reducible assumption | omega | (simp only [List.length_take, List.length_drop, List.length_append, List.length_cons, List.length_nil]; omega))); intro _ _ _ _ _ _ _ _ _ _ _; clear kFq kNq) | (refine goOn ?_; k_here; (with_reducible show wpAny _ _ (PySem.call (Value.ref 74) _) _ _ _); (with_reducible rename Fr _ _ _ _ => kFq); (with_reducible rename News _ _ _ _ => kNq); k_dflt (refine' useList (c_add_at ⟨?zqgx, ?zqgt⟩ kFq.keep ?zqhl ?zqhl2 ?zqhi ?zqhi2 ?zqhn ?zqhn2 ?zqs0 ?zqs1 ?zqw0 ?zqw1 ?zqr1 ?zqr2) kFq kNq rfl (by first | exact Nat.le_of_ble_eq_true rfl | (dsimp only [Ar]; omega)) (by first | exact Nat.le_of_ble_eq_true rfl | (dsimp only [Ar]; omega)) ?_; (case zqgx => assumption); (case zqgt => assumption); (case zqhl => first | exact Fr.lst kFq (by assumption) | exact News.isList kNq (by k_mem)); (case zqhl2 => first | exact Fr.lst kFq (by assumption) | exact News.isList kNq (by k_mem)); (case zqhi => assumption); (case zqhi2 => assumption); (case zqs0 => first | assumption | omega); (case zqs1 => first | assumption | omega); (case zqw0 => assumption); (case zqw1 => assumption); (case zqr1 => assumption); (case zqr2 => assumption); (case zqhn => first | with_reducible assumption | exact Nat.le_trans (by with_reducible assumption) (Nat.le_of_ble_eq_true rfl) | omega | (simp only [List.length_drop]; omega)); (case zqhn2 => first | with_reducible assumption | exact Nat.le_trans (by with_reducible assumption) (Nat.le_of_ble_eq_true rfl) | omega)); intro _ _ _ _ _ _ _ _ _ _ zhP; have _ := zhP.1; have _ := zhP.2.1; have _ := zhP.2.2; clear zhP; clear kFq kNq) | (refine goOn ?_; k_here; (with_reducible show wpAny _ _ (PySem.call (Value.ref _) _) _ _ _); (with_reducible rename Fr _ _ _ _ => kFq); (with_reducible rename News _ _ _ _ => kNq); (with_reducible rename Heap.StaysIn _ _ => kB); (with_reducible rename KeepsAll _ _ => kK); (with_reducible rename MulOk _ _ _ _ _ _ => kC); k_dflt (refine' useMul (kC _ _ _ _ _ _ _ _ _ _ (stays_fr kFq kB) (kK.fr kFq) ?zqhT ?zqtk ?zqhl ?zqhl3 ?zqne ?zqne3 ?zqhi ?zqhi3 ?zqhn ?zqhn3 ?zqr1 ?zqr3) kFq kNq ?zqU rfl (by first | exact Nat.le_of_ble_eq_true rfl | (dsimp only [Ar]; omega)) (by first | exact Nat.le_of_ble_eq_true rfl | (dsimp only [Ar]; omega)) ?_; (case zqhT => exact (kNq (_, _) (by k_mem)).1); (case zqtk => first | with_reducible assumption | omega | (simp only [List.length_take, List.length_drop, List.length_append, List.length_cons, List.length_nil]; omega)); (case zqhl => first | exact Fr.lst kFq (by with_reducible assumption) | exact News.isList kNq (by k_mem)); (case zqhl3 => first | exact Fr.lst kFq (by with_reducible assumption) | exact News.isList kNq (by k_mem)); (case zqne => first | with_reducible assumption | k_ne); (case zqne3 => first | with_reducible assumption | k_ne); (case zqhi => with_reducible assumption); (case zqhi3 => with_reducible assumption); (case zqhn => first | with_reducible assumption | exact Nat.le_trans (by with_reducible assumption) (Nat.le_of_ble_eq_true rfl) | omega | (simp only [List.length_take, List.length_drop, List.length_append, List.length_cons, List.length_nil]; omega)); (case zqhn3 => first | with_reducible assumption | exact Nat.le_trans (by with_reducible assumption) (Nat.le_of_ble_eq_true rfl) | omega | (simp only [List.length_take, List.length_drop, List.length_append, List.length_cons, List.length_nil]; omega)); (case zqr1 => with_reducible assumption); (case zqr3 => with_reducible assumption); (case zqU => exact UpdF.tail (by k_ne) (UpdF.head (by with_reducible assumption)))); intro _ _ _ _ _ _ _ _ _ _ _ _ kNn; (try dsimp only [List.append] at kNn); revert kNn; intro _ _ _ _ _ _) | (refine goOn ?_; k_dflt (refine' kmk_slice_ints ?zqF ?zqN ?zql ?zqp ?zqq ?zqi ?zqm rfl ?_ ?zqs ?zqt ?zqz; (case zqF => k_asm); (case zqN => k_asm); (case zql => first | exact Fr.lst (by assumption) (by assumption) | exact News.isList (by assumption) (by k_mem)); (case zqp => kmk_part); (case zqq => kmk_part); (case zqi => assumption); (case zqm => first | exact kmk_all (by assumption) | exact kmk_from (by assumption) (by first | assumption | omega) | exact kmk_upto (by assumption) (by first | assumption | omega) | exact kmk_run (by assumption) (by first | assumption | omega) (by first | assumption | omega)); (case zqs => with_unfolding_all rfl); (case zqt => kmk_pure); (case zqz => exact sz_ok (by assumption) (by omega))); intro _ _ _ _ _ zl1 _ zhC zhL; (try k_lt zl1); (try k_sweep); clear zhC zhL) | (refine goOn ?_; with_reducible rename Fr _ _ _ _ => kFq; with_reducible rename News _ _ _ _ => kNq; k_dflt (refine' appD kFq kNq ?zqo ?zqz ?_; (case zqo => first | exact offOne (by assumption) | exact offNil | assumption); (case zqz => first | assumption | omega)); intro _ _ _; clear kFq kNq) | fail); (try k_steps))
    unfold Stop
    rename Fr _ _ _ _ => F7
    rename News _ _ _ _ => N7
    refine ⟨_, _, _, rfl, rfl, hkk F7, ⟨_, _, _, _, rfl, hidden_none hg (N7 _ (.head _)).2.2 hDT, (N7 _ (.head _)).1, hii, hrm, ?_⟩, _, _, tups, (N7 _ (.tail _ (.head _))).1, fun q hq => ⟨(N7 _ (.tail _ (.tail _ hq))).1, hidden_none hg (N7 _ (.tail _ (.tail _ hq))).2.2 (htT q hq)⟩, htp, by omega⟩
    rw [hvm, List.take_of_length_le hr1]
theorem useClo {A : Around} {d u : Nat} {fv : Value} {vs : List Value} {Q E : Value → Shared → Prop} {h₀ : Heap} {L : Addr} {m : Str → Option Value} {news : List (Addr × Obj)} {g : Obj → List (Addr × Obj)} {tab lno : Nat} {qual : Str} {Ok : List (Addr × Obj) → Addr → Prop} {ps : Array Value} {c0 : Addr}
    (C : codeAny (model PP w) (Ar d u) (.call fv ⟨vs, []⟩) (Done [tab] (CloOut s.heap tab lno qual Ok ps c0) s) s)
    (F : Fr h₀ L s.heap m) (N : News h₀ L s.heap news) (U : UpdF tab (tabObj ps) news g) (hc0 : ps = #[] ∨ ∃ o0, (c0, o0) ∈ news) (hA : A.handled = none) (hd : A.depth ≤ d) (hu : A.units ≤ u)
    (h : ∀ f fo c' oc cw ow ct ot h' tk', Fr h₀ L h' m → News h₀ L h' ((f, fo) :: (c', oc) :: (cw, ow) :: (ct, ot) :: g (tabObj #[rawInt lno, rawInt (4 : Nat), .ref c'])) → AwayFrom f news → AwayFrom cw news → AwayFrom ct news → (ps = #[] ∧ AwayFrom c' news ∨ ps ≠ #[] ∧ c' = c0) →
      IsFn fo → CodeO oc qual → Ok [(f, fo), (c', oc), (cw, ow), (ct, ot)] f → Q (.ref f) { s with heap := h', toks := tk' }) : wpAny (model PP w) A (call fv vs) Q E s := by
  refine use hA hd hu C fun v h' tk' k p => ?_
  obtain ⟨f, fo, c', oc, cw, ow, ct, ot, rfl, hfo, hf, hw, ht, hcc, hf', hc', hw', ht', htab, hq, hok⟩ := p
  obtain ⟨pre, post, rfl, hg, a1, a2⟩ := U.split
  have z := N (tab, tabObj ps) (List.mem_append_right _ (.head _))
  refine h f fo c' oc cw ow ct ot h' tk' (k.fr F fun c hc => by rw [List.mem_singleton.mp hc]; exact z.2) (fun q hq => ?_) (ne_new N hf) (ne_new N hw) (ne_new N ht) ?_ hfo hq hok
  · rcases List.mem_cons.mp hq with rfl | hq
    · exact new_at F hf hf'
    rcases List.mem_cons.mp hq with rfl | hq
    · rcases hcc with ⟨_, hn⟩ | ⟨hne, rfl⟩
      · exact new_at F hn hc'
      · rcases hc0 with e | ⟨o0, hm⟩
        · exact absurd e hne
        · exact ⟨hc', (N _ hm).2⟩
    rcases List.mem_cons.mp hq with rfl | hq
    · exact new_at F hw hw'
    rcases List.mem_cons.mp hq with rfl | hq
    · exact new_at F ht ht'
    rw [hg] at hq
    rcases List.mem_append.mp hq with hq | hq
    · have y := N q (List.mem_append_left _ hq)
      exact ⟨k _ _ (fun c => a1 q hq (List.mem_singleton.mp c)) y.1, y.2⟩
    · rcases List.mem_cons.mp hq with rfl | hq
      · exact ⟨htab, z.2⟩
      · have y := N q (List.mem_append_right _ (.tail _ hq))
        exact ⟨k _ _ (fun c => a2 q hq (List.mem_singleton.mp c)) y.1, y.2⟩
  · rcases hcc with ⟨e, hn⟩ | hcc
    · exact .inl ⟨e, ne_new N hn⟩
    · exact .inr hcc
theorem pow_bound {B : Int} (h1 : 1 ≤ B) (h2 : B ≤ 512) (n : Nat) : B ^ n ≤ 2 ^ (9 * n) := by
  induction n with
  | zero => simp
  | succ n ih =>
    rw [Int.pow_succ, Nat.mul_succ, Int.pow_add]
    have h3 : (0 : Int) < B ^ n := Int.pow_pos (by omega)
    have a := Int.mul_le_mul_of_nonneg_left h2 (Int.le_of_lt h3)
    have c := Int.mul_le_mul_of_nonneg_right ih (show (0 : Int) ≤ 2 ^ 9 by omega)
    omega
theorem lt_512 {v : Int} {n : Nat} (h : v < 2 ^ n) (hn : n ≤ 512) : v < 2 ^ 512 := Int.lt_of_lt_of_le h (int_pow_le (by omega) hn)
theorem mul_lt_pow {v u : Int} {m n : Nat} (h0 : 0 ≤ v) (h1 : v < 2 ^ m) (g0 : 0 ≤ u) (g1 : u < 2 ^ n) : 0 ≤ v * u ∧ v * u < 2 ^ (m + n) := by
  refine ⟨Int.mul_nonneg h0 g0, ?_⟩
  have k1 := Int.mul_le_mul_of_nonneg_right (Int.le_of_lt h1) g0
  have k2 := Int.mul_lt_mul_of_pos_left g1 (show (0 : Int) < 2 ^ m from Int.pow_pos (by omega))
  rw [Int.pow_add]; omega
def TabS (ps : Array Value) (hx : List (Addr × Obj)) : Prop :=
  (ps = #[] ∧ hx = []) ∨ ∃ c0 o0, ps = #[rawInt (103 : Nat), rawInt (4 : Nat), .ref c0] ∧ hx = [(c0, o0)] ∧ c0 ≠ 156 ∧ CodeO o0 (Str.ofString "_law_square.<locals>.given")
theorem TabS.zero : TabS #[] [] := .inl ⟨rfl, rfl⟩
theorem TabS.off {ps : Array Value} {hx : List (Addr × Obj)} (h : TabS ps hx) : ∀ q ∈ hx, q.1 ≠ 156 := fun q hq => by
  rcases h with ⟨_, rfl⟩ | ⟨c0, o0, _, rfl, hn, _⟩
  · exact nomatch hq
  · rw [List.mem_singleton.mp hq]; exact hn
theorem TabS.split {ps : Array Value} {hx : List (Addr × Obj)} (h : TabS ps hx) : ∃ c0 o0, ps = #[] ∨ (ps = #[rawInt (103 : Nat), rawInt (4 : Nat), .ref c0] ∧ (c0, o0) ∈ hx ∧ CodeO o0 (Str.ofString "_law_square.<locals>.given")) := by
  rcases h with ⟨h, _⟩ | ⟨c0, o0, h1, rfl, _, h2⟩
  · exact ⟨0, tabObj #[], .inl h⟩
  · exact ⟨c0, o0, .inr ⟨h1, .head _, h2⟩⟩
theorem allLt_mem {d : Addr} {l : List (Addr × Obj)} (h : AllLt d l) : ∀ q ∈ l, @LT.lt Nat _ q.1 d := by
  induction l with
  | nil => exact fun _ z => nomatch z
  | cons p r ih =>
    intro q hq
    have h' : p.1 < d ∧ AllLt d r := h
    rcases List.mem_cons.mp hq with rfl | hq
    · exact h'.1
    · exact ih h'.2 q hq
theorem least_of {i : Nat} {v : Value} {t1 t2 t3 : Tok} {lr : Int} (h0 : 0 ≤ lr) (h1 : lr < 10) (h : (#[Value.int 0 t1, Value.int 3 t2, Value.int (1 + lr) t3] : Array Value)[i]? = some v) : ∃ lv t, v = .int lv t ∧ 0 ≤ lv ∧ lv ≤ 10 := by
  match i with
  | 0 => exact ⟨0, t1, (Option.some.inj h).symm, by omega, by omega⟩
  | 1 => exact ⟨3, t2, (Option.some.inj h).symm, by omega, by omega⟩
  | 2 => exact ⟨1 + lr, t3, (Option.some.inj h).symm, by omega, by omega⟩
  | n + 3 => simp at h
theorem keeps4 {h₀ h : Heap} {L : Addr} {x y z v : Addr × Obj} {r : List (Addr × Obj)} (N : News h₀ L h (x :: y :: z :: v :: r)) : KeepsAll [x, y, z, v] h := fun q hq => by
  refine (N q ?_).1
  rcases List.mem_cons.mp hq with rfl | hq
  · exact .head _
  rcases List.mem_cons.mp hq with rfl | hq
  · exact .tail _ (.head _)
  rcases List.mem_cons.mp hq with rfl | hq
  · exact .tail _ (.tail _ (.head _))
  · rw [List.mem_singleton.mp hq]; exact .tail _ (.tail _ (.tail _ (.head _)))
theorem useSK {A : Around} {Q E : Value → Shared → Prop} {h₀ : Heap} {L T f l : Addr} {m : Str → Option Value} {x y z v : Addr × Obj} {rest : List (Addr × Obj)} {e c : Nat} {vs : List Value} {ns : List Int} {wv lv : Int} {tw tl : Tok}
    (hS : SK w b [x, y, z, v] f T wv lv 960 3400 16 81) (hb : b.StaysIn s.heap) (F : Fr h₀ L s.heap m) (N : News h₀ L s.heap (x :: y :: z :: v :: (T, listOf (List.toArray []) e) :: rest)) (hK : ∀ q ∈ [x, y, z, v], q.1 ≠ T) (hr : ∀ q ∈ rest, q.1 ≠ T)
    (hl : (l, listOf (List.toArray vs) c) ∈ rest) (hi : IntsAre vs ns) (hn : ns.length ≤ 16) (hrow : Row (2 ^ wv.toNat) ns) (hA : A.handled = none) (hd : A.depth ≤ 960) (hu : A.units ≤ 3400)
    (h : ∀ D us c ms os e2 more h' tk', Fr h₀ L h' m → News h₀ L h' ((D, listOf (List.toArray us) c) :: (T, listOf (List.toArray os) e2) :: y :: rest) → AwayFrom D ((T, listOf (List.toArray []) e) :: y :: rest) → IntsAre us ms → Row (2 ^ wv.toNat) ms → val (2 ^ wv.toNat) ms = val (2 ^ wv.toNat) ns ^ 2 → IntsAre os more → 1 ≤ more.length → more.length ≤ 81 →
      (∀ x ∈ more, 0 ≤ x ∧ x < max 2 lv) → Q (.ref D) { s with heap := h', toks := tk' }) : wpAny (model PP w) A (call (.ref 123) [.ref l, .int wv tw, .int lv tl, .ref f]) Q E s := by
  have hm : (l, listOf (List.toArray vs) c) ∈ x :: y :: z :: v :: (T, listOf (List.toArray []) e) :: rest := .tail _ (.tail _ (.tail _ (.tail _ (.tail _ hl))))
  have hT := N (T, listOf (List.toArray []) e) (.tail _ (.tail _ (.tail _ (.tail _ (.head _)))))
  refine useSqr (hS s l vs [] ns [] e tw tl hb (keeps4 N) hT.1 IntsAre.nil (by decide) (News.isList N hm) (hr _ hl) hi hn hrow) F N (UpdF.tail (hK _ (.head _)) (UpdF.tail (hK _ (.tail _ (.head _))) (UpdF.tail (hK _ (.tail _ (.tail _ (.head _)))) (UpdF.tail (hK _ (.tail _ (.tail _ (.tail _ (.head _))))) (UpdF.head hr))))) hA hd hu ?_
  intro D us c ms os e' more h' tk' F' N' nD hI hR hV hT' m1 m2 m3
  refine h D us c ms os e' more h' tk' F' (fun q hq => N' q ?_) (fun q hq => ?_) hI hR hV hT' m1 m2 m3
  · rcases List.mem_cons.mp hq with rfl | hq
    · exact .head _
    rcases List.mem_cons.mp hq with rfl | hq
    · exact .tail _ (.tail _ (.tail _ (.tail _ (.tail _ (.head _)))))
    rcases List.mem_cons.mp hq with rfl | hq
    · exact .tail _ (.tail _ (.head _))
    · exact .tail _ (.tail _ (.tail _ (.tail _ (.tail _ (.tail _ hq)))))
  · rcases List.mem_cons.mp hq with rfl | hq
    · exact nD _ (.tail _ (.tail _ (.tail _ (.tail _ (.head _)))))
    rcases List.mem_cons.mp hq with rfl | hq
    · exact nD _ (.tail _ (.head _))
    · exact nD _ (.tail _ (.tail _ (.tail _ (.tail _ (.tail _ hq)))))
theorem useMS {A : Around} {Q E : Value → Shared → Prop} {h₀ : Heap} {L T f l l2 : Addr} {fo : Obj} {m : Str → Option Value} {y z v : Addr × Obj} {rest : List (Addr × Obj)} {e c c2 : Nat} {vs vs2 : List Value} {ns ns2 : List Int} {wv : Int} {tw : Tok}
    (G : Gd w p loose mean mg mb b) (hM : MulOk w b [(f, fo), y, z, v] f T wv) (hfo : IsFn fo) (hb : b.StaysIn s.heap) (F : Fr h₀ L s.heap m) (N : News h₀ L s.heap ((f, fo) :: y :: z :: v :: (T, listOf (List.toArray []) e) :: rest)) (hT0 : b.get? T = none) (hK : ∀ q ∈ [(f, fo), y, z, v], q.1 ≠ T) (hr : ∀ q ∈ rest, q.1 ≠ T)
    (hl : (l, listOf (List.toArray vs) c) ∈ rest) (hl2 : (l2, listOf (List.toArray vs2) c2) ∈ rest) (hi : IntsAre vs ns) (hi2 : IntsAre vs2 ns2) (hn : ns.length ≤ 9) (hn0 : 1 ≤ ns2.length) (hn2 : ns2.length ≤ 3) (hrow : Row (2 ^ wv.toNat) ns) (hrow2 : Row (2 ^ wv.toNat) ns2) (hw0 : 1 ≤ wv) (hw1 : wv ≤ 9)
    (hA : A.handled = none) (hd : A.depth ≤ 965) (hu : A.units ≤ 3400)
    (h : ∀ D us c ms os e2 tups h' tk', Fr h₀ L h' m → News h₀ L h' ((D, listOf (List.toArray us) c) :: (T, listOf (List.toArray os) e2) :: (rest ++ tups)) → IntsAre us ms → Row (2 ^ wv.toNat) ms → val (2 ^ wv.toNat) ms = val (2 ^ wv.toNat) ns * val (2 ^ wv.toNat) ns2 →
      TupsIn tups os ns2.length → os.length ≤ 9 → Q (.ref D) { s with heap := h', toks := tk' }) : wpAny (model PP w) A (call (.ref 116) [.ref l, .ref l2, .int wv tw, .ref f]) Q E s := by
  have hm : ∀ q ∈ rest, q ∈ (f, fo) :: y :: z :: v :: (T, listOf (List.toArray []) e) :: rest := fun q hq => .tail _ (.tail _ (.tail _ (.tail _ (.tail _ hq))))
  have hT := N (T, listOf (List.toArray []) e) (.tail _ (.tail _ (.tail _ (.tail _ (.head _)))))
  refine use hA hd hu (c_mul_slices G hb hT0 hM hK (.head _) hfo (keeps4 N) hT.1 (News.isList N (hm _ hl)) (News.isList N (hm _ hl2)) (hr _ hl) (hr _ hl2) hi hi2 hn hn0 hn2 hrow hrow2 hw0 hw1) fun v h' tk' k p => ?_
  obtain ⟨⟨D, us, c, ms, rfl, hD, hD', hi, hr', hv⟩, os, e2, tups, hT', htt, htp, hol⟩ := p
  refine h D us c ms os e2 tups h' tk' (k.fr F fun c hc => by rw [List.mem_singleton.mp hc]; exact hT.2) (fun q hq => ?_) hi hr' hv htp hol
  rcases List.mem_cons.mp hq with rfl | hq
  · exact new_at F hD hD'
  rcases List.mem_cons.mp hq with rfl | hq
  · exact ⟨hT', hT.2⟩
  rcases List.mem_append.mp hq with hq | hq
  · have y := N q (hm q hq)
    exact ⟨k _ _ (fun c => hr q hq (List.mem_singleton.mp c)) y.1, y.2⟩
  · exact new_at F (htt q hq).2 (htt q hq).1
theorem last_facts {x y md hf one other : Int} (hf1 : 1 ≤ hf) (hf2 : hf ≤ 2 ^ 36) (hx0 : 0 ≤ x) (hx1 : x < hf) (hy0 : 0 ≤ y) (hy1 : y < hf) (hm0 : 0 ≤ md) (hm1 : md < hf ^ Int.toNat 2) :
    (0 ≤ x + md * hf + y * hf ^ Int.toNat 2 ∧ x + md * hf + y * hf ^ Int.toNat 2 < 2 ^ 512) ∧ (0 ≤ x * one.fmod hf ∧ x * one.fmod hf < 2 ^ 512) ∧ (0 ≤ y * other.fmod hf ∧ y * other.fmod hf < 2 ^ 512) ∧
      (IntMulOk x (one.fmod hf) ∧ IntMulOk y (other.fmod hf) ∧ IntMulOk x (other.fmod hf) ∧ IntMulOk y (one.fmod hf)) ∧ (0 ≤ x * other.fmod hf + y * one.fmod hf ∧ x * other.fmod hf + y * one.fmod hf < 2 ^ 512) ∧
      (IntMulOk (if x - y < 0 then -(x - y) else x - y) (if one.fmod hf - other.fmod hf < 0 then -(one.fmod hf - other.fmod hf) else one.fmod hf - other.fmod hf) ∧
        0 ≤ (if x - y < 0 then -(x - y) else x - y) * (if one.fmod hf - other.fmod hf < 0 then -(one.fmod hf - other.fmod hf) else one.fmod hf - other.fmod hf) ∧
        (if x - y < 0 then -(x - y) else x - y) * (if one.fmod hf - other.fmod hf < 0 then -(one.fmod hf - other.fmod hf) else one.fmod hf - other.fmod hf) < 2 ^ 512) ∧ (IntMulOk md hf ∧ IntMulOk y (hf ^ Int.toNat 2)) := by
  have hff : hf ^ Int.toNat 2 = hf * hf := by rw [show Int.toNat 2 = 2 from rfl, Int.pow_succ, Int.pow_succ, Int.pow_zero, Int.one_mul]
  have hf0 : 0 ≤ hf ^ Int.toNat 2 := by rw [hff]; exact Int.mul_nonneg (by omega) (by omega)
  have hf5 : hf ^ Int.toNat 2 ≤ 2 ^ 72 := by
    rw [hff]
    have := Int.mul_le_mul hf2 hf2 (by omega) (by decide)
    omega
  have hf9 : 0 < hf := Int.lt_of_lt_of_le (by decide) hf1
  have hU0 := fmod_lo one hf9
  have hU1 := fmod_hi one hf9
  have hV0 := fmod_lo other hf9
  have hV1 := fmod_hi other hf9
  have hx2 := Int.lt_of_lt_of_le hx1 hf2
  have hy2 := Int.lt_of_lt_of_le hy1 hf2
  have hU2 := Int.lt_of_lt_of_le hU1 hf2
  have hV2 := Int.lt_of_lt_of_le hV1 hf2
  have hmd : md < 2 ^ 72 := Int.lt_of_lt_of_le hm1 hf5
  have hf37 : hf < 2 ^ 37 := Int.lt_of_le_of_lt hf2 (by decide)
  have hf73 : hf ^ Int.toNat 2 < 2 ^ 73 := Int.lt_of_le_of_lt hf5 (by decide)
  have hd1 := mul_lt_pow (m := 72) (n := 37) hm0 hmd (Int.le_of_lt hf9) hf37
  have hd2 := mul_lt_pow (m := 36) (n := 73) hy0 hy2 hf0 hf73
  have a1 := mul_lt_pow hx0 hx2 hU0 hU2
  have a2 := mul_lt_pow hy0 hy2 hV0 hV2
  have a3 := mul_lt_pow hx0 hx2 hV0 hV2
  have a4 := mul_lt_pow hy0 hy2 hU0 hU2
  have hax := abs36 hx0 hx2 hy0 hy2
  have hau := abs36 hU0 hU2 hV0 hV2
  have a5 := mul_lt_pow hax.1 hax.2 hau.1 hau.2
  have m1 := IntMulOk.of_le (bits_lt hx0 hx2) (bits_lt hU0 hU2) (by decide)
  have m2 := IntMulOk.of_le (bits_lt hy0 hy2) (bits_lt hV0 hV2) (by decide)
  have m3 := IntMulOk.of_le (bits_lt hx0 hx2) (bits_lt hV0 hV2) (by decide)
  have m4 := IntMulOk.of_le (bits_lt hy0 hy2) (bits_lt hU0 hU2) (by decide)
  have m5 := IntMulOk.of_le (bits_lt hax.1 hax.2) (bits_lt hau.1 hau.2) (by decide)
  have m6 := IntMulOk.of_le (bits_lt (m := 72) hm0 hmd) (bits_lt (m := 37) (Int.le_of_lt hf9) hf37) (by decide)
  have m7 := IntMulOk.of_le (bits_lt hy0 hy2) (bits_lt (m := 73) hf0 hf73) (by decide)
  clear hax hau
  refine ⟨⟨by omega, lt_512 (n := 111) (by omega) (by decide)⟩, ⟨a1.1, lt_512 a1.2 (by decide)⟩, ⟨a2.1, lt_512 a2.2 (by decide)⟩, ⟨m1, m2, m3, m4⟩, ⟨by omega, lt_512 (n := 74) (by omega) (by decide)⟩, ⟨m5, a5.1, lt_512 a5.2 (by decide)⟩, m6, m7⟩
theorem cross_eq {x y u v : Int} : (if (decide (x < y) != decide (u < v)) = true then x * u + y * v + (if x - y < 0 then -(x - y) else x - y) * (if u - v < 0 then -(u - v) else u - v) else x * u + y * v - (if x - y < 0 then -(x - y) else x - y) * (if u - v < 0 then -(u - v) else u - v)) = x * v + y * u := by
  by_cases h1 : x < y <;> by_cases h2 : u < v
  · rw [if_neg (by simp [h1, h2]), if_pos (by omega), if_pos (by omega)]; grind
  · rw [if_pos (by simp [h1, h2]), if_pos (by omega), if_neg (by omega)]; grind
  · rw [if_pos (by simp [h1, h2]), if_neg (by omega), if_pos (by omega)]; grind
  · rw [if_neg (by simp [h1, h2]), if_neg (by omega), if_neg (by omega)]; grind
theorem cross_ge {x y u v : Int} (hx : 0 ≤ x) (hy : 0 ≤ y) (hu : 0 ≤ u) (hv : 0 ≤ v) (hb : (decide (x < y) != decide (u < v)) = false) : (if x - y < 0 then -(x - y) else x - y) * (if u - v < 0 then -(u - v) else u - v) ≤ x * u + y * v := by
  have h := cross_eq (x := x) (y := y) (u := u) (v := v)
  rw [if_neg (by rw [hb]; decide)] at h
  have a := Int.mul_nonneg hx hv
  have c := Int.mul_nonneg hy hu
  omega
theorem half_facts {B hf sr : Int} (hB1 : 1 < B) (hB2 : B ≤ 512) (hhf : hf = B ^ (1 + sr).toNat) (hs0 : 0 ≤ sr) (hs1 : sr < 4) : 1 ≤ hf ∧ hf ≤ 2 ^ 36 ∧ Builtin.Int.intBits hf ≤ 400 := by
  have h0 : (0 : Int) < B ^ (1 + sr).toNat := Int.pow_pos (by omega)
  have h2 : hf ≤ 2 ^ 36 := by rw [hhf]; exact Int.le_trans (int_pow_le (by omega) (show (1 + sr).toNat ≤ 4 by omega)) (pow_bound (by omega) hB2 4)
  have h1 : 1 ≤ hf := by rw [hhf]; omega
  exact ⟨h1, h2, bits_mono (bits_lt (m := 37) (by omega) (by omega)) (by decide)⟩
theorem sq_ge {hf : Int} (hf1 : 1 ≤ hf) : 1 ≤ hf ^ Int.toNat 2 := by
  rw [show Int.toNat 2 = 2 from rfl, Int.pow_succ, Int.pow_succ, Int.pow_zero, Int.one_mul]
  have := Int.mul_le_mul_of_nonneg_left hf1 (show 0 ≤ hf by omega)
  omega
theorem last_lens {B hf sr x y md : Int} {a c d : List Int} (hB1 : 1 < B) (hhf : hf = B ^ (1 + sr).toNat) (hs0 : 0 ≤ sr) (hs1 : sr < 4) (ha : Row B a) (hva : val B a = x) (hx : x < hf) (hc : Row B c) (hvc : val B c = y) (hy : y < hf) (hd : Row B d) (hvd : val B d = md) (hm : md < hf ^ Int.toNat 2) :
    a.length ≤ 4 ∧ c.length ≤ 4 ∧ d.length ≤ 8 := by
  have hfB : hf ≤ B ^ 4 := by rw [hhf]; exact int_pow_le (by omega) (by omega)
  have h0 : 0 ≤ hf := by rw [hhf]; exact Int.le_of_lt (Int.pow_pos (by omega))
  have hfB2 : hf ^ Int.toNat 2 ≤ B ^ 8 := by
    rw [show Int.toNat 2 = 2 from rfl, Int.pow_succ, Int.pow_succ, Int.pow_zero, Int.one_mul, show (8 : Nat) = 4 + 4 from rfl, Int.pow_add]
    exact Int.mul_le_mul hfB hfB h0 (Int.le_trans h0 hfB)
  exact ⟨row_short hB1 ha (by omega), row_short hB1 hc (by omega), row_short hB1 hd (by omega)⟩
theorem due_eq {B hf sr x y md a c d r : Int} (hhf : hf = B ^ (1 + sr).toNat) (hs0 : 0 ≤ sr) (ha : a = x) (hc : c = y) (hd : d = md) (hr : r = a + B ^ (1 + sr).toNat * d + B ^ (2 * (1 + sr)).toNat * c) : r = x + md * hf + y * hf ^ Int.toNat 2 := by
  rw [hr, ha, hc, hd, two_toNat, Int.pow_mul, ← hhf, show Int.toNat 2 = 2 from rfl, Int.mul_comm hf md, Int.mul_comm _ y]
theorem sq_le {hf : Int} (hf1 : 1 ≤ hf) (hf2 : hf ≤ 2 ^ 36) : hf ^ Int.toNat 2 ≤ 2 ^ 72 := by
  rw [show Int.toNat 2 = 2 from rfl, Int.pow_succ, Int.pow_succ, Int.pow_zero, Int.one_mul]
  have := Int.mul_le_mul hf2 hf2 (by omega) (by decide)
  omega
theorem row_len90 {B v : Int} {ms : List Int} (hB1 : 1 < B) (hv : val B ms = v) (hr : Row B ms) (h : v < 2 ^ 72) : ms.length ≤ 90 := by
  refine Nat.le_trans (row_short (m := 72) hB1 hr ?_) (by decide)
  rw [hv]
  refine Int.lt_of_lt_of_le h ?_
  have : ∀ n : Nat, (2 : Int) ^ n ≤ B ^ n := fun n => by
    induction n with
    | zero => simp
    | succ n ih =>
      rw [Int.pow_succ, Int.pow_succ]
      have a : (0 : Int) < 2 ^ n := Int.pow_pos (by omega)
      exact Int.mul_le_mul ih (show (2 : Int) ≤ B by omega) (by omega) (by omega)
  exact this 72
theorem last_small {x y hf one other : Int} (hf1 : 1 ≤ hf) (hf2 : hf ≤ 2 ^ 36) (hx0 : 0 ≤ x) (hx1 : x < hf) (hy0 : 0 ≤ y) (hy1 : y < hf) :
    x * one.fmod hf < 2 ^ 72 ∧ y * other.fmod hf < 2 ^ 72 ∧ (if x - y < 0 then -(x - y) else x - y) * (if one.fmod hf - other.fmod hf < 0 then -(one.fmod hf - other.fmod hf) else one.fmod hf - other.fmod hf) < 2 ^ 72 ∧ 0 ≤ one.fmod hf ∧ 0 ≤ other.fmod hf := by
  have hf9 : 0 < hf := Int.lt_of_lt_of_le (by decide) hf1
  have hU0 := fmod_lo one hf9
  have hU1 := fmod_hi one hf9
  have hV0 := fmod_lo other hf9
  have hV1 := fmod_hi other hf9
  have hx2 := Int.lt_of_lt_of_le hx1 hf2
  have hy2 := Int.lt_of_lt_of_le hy1 hf2
  have hU2 := Int.lt_of_lt_of_le hU1 hf2
  have hV2 := Int.lt_of_lt_of_le hV1 hf2
  have hax := abs36 hx0 hx2 hy0 hy2
  have hau := abs36 hU0 hU2 hV0 hV2
  exact ⟨(mul_lt_pow hx0 hx2 hU0 hU2).2, (mul_lt_pow hy0 hy2 hV0 hV2).2, (mul_lt_pow hax.1 hax.2 hau.1 hau.2).2, hU0, hV0⟩
theorem ge_of {a b c A B C : Int} (h3 : c = C) (h1 : a = A) (h2 : b = B) (h : C ≤ A + B) : c ≤ a + b := by omega
theorem mid_eq {x y u v a c d r : Int} (h1 : a = x * u) (h2 : c = y * v) (h3 : d = (if x - y < 0 then -(x - y) else x - y) * (if u - v < 0 then -(u - v) else u - v)) (hr : r = (if (decide (x < y) != decide (u < v)) = true then a + c + d else a + c - d)) : r = x * v + y * u := by
  rw [hr, h1, h2, h3]; exact cross_eq
theorem usePool {A : Around} {d u : Nat} {f : Value} {vs : List Value} {Q E : Value → Shared → Prop} {h₀ : Heap} {L : Addr} {m : Str → Option Value} {news : List (Addr × Obj)}
    (C : codeAny (model PP w) (Ar d u) (.call f ⟨vs, []⟩) (Done [] (PoolOut s.heap) s) s)
    (F : Fr h₀ L s.heap m) (N : News h₀ L s.heap news) (hA : A.handled = none) (hd : A.depth ≤ d) (hu : A.units ≤ u)
    (h : ∀ P o J us c ns h' tk', Fr h₀ L h' m → News h₀ L h' ((P, o) :: (J, listOf (List.toArray us) c) :: news) → AwayFrom P news → AwayFrom J news → PoolO J o → J ≠ P → IntsAre us ns → ns.length ≤ 63 → Q (.ref P) { s with heap := h', toks := tk' }) :
    wpAny (model PP w) A (call f vs) Q E s := by
  refine use hA hd hu C fun v h' tk' k p => ?_
  obtain ⟨P, o, J, us, ns, c, rfl, hP, hP', hO, hJP, hJ, hJ', hi, hn⟩ := p
  refine h P o J us c ns h' tk' (k.fr F fun _ z => nomatch z) (fun q hq => ?_) (ne_new N hP) (ne_new N hJ) hO hJP hi hn
  rcases List.mem_cons.mp hq with rfl | hq
  · exact new_at F hP hP'
  rcases List.mem_cons.mp hq with rfl | hq
  · exact new_at F hJ hJ'
  · exact k.news N (fun _ _ z => nomatch z) q hq
local macro_rules | `(tactic| walk_at "eval Name") => `(tactic| first
  | ((with_reducible rename Heap.Ns _ _ _ => kn); k_dflt (refine' nmNs kn ?l ?v ?k ?d ?_; (case l => exact rfl); (case v => with_reducible assumption); (case k => exact rfl); (case d => exact rfl)))
  | ((with_reducible rename News _ _ _ _ => kN); k_dflt (refine' nmCell (kN (_, _) ?m).1 ?d ?c ?l ?k ?b ?_; (case c => exact rfl); (case l => exact rfl); (case m => k_mem); (case d => with_reducible assumption); (case k => exact rfl); (case b => exact rfl))))
local macro_rules | `(tactic| walk_at "callWith ref") => `(tactic| (k_here; k_dflt (refine' callWith_K ?k1 ?k2 ?_; (case k1 => k_asm); (case k2 => k_is); k_whole)))
local macro_rules | `(tactic| walk_at "eval ListComp") => `(tactic| refine stopHere ?_)
local macro_rules | `(tactic| walk_at "exec For Name Tuple cons nil") => `(tactic| refine stopHere ?_)
set_option maxHeartbeats 40000000 in
theorem law_holds : PySem.Challenge.rw_nn0003_01.Holds := hd (by
  k_go0
  try k_fold
  k_steps
  repeat' ((first | (refine goOn ?_; k_here; (with_reducible show wpAny _ _ (PySem.call (Value.ref 135) _) _ _ _); (with_reducible rename Fr _ _ _ _ => kFq); (with_reducible rename News _ _ _ _ => kNq); k_dflt (refine' usePool (c_law_pool ⟨?zqgx, ?zqgt⟩ kFq.keep ?zqhl ?zqhi ?zqhn) kFq kNq rfl (by first | exact Nat.le_of_ble_eq_true rfl | (dsimp only [Ar]; omega)) (by first | exact Nat.le_of_ble_eq_true rfl | (dsimp only [Ar]; omega)) ?_; (case zqgx => with_reducible assumption); (case zqgt => with_reducible assumption); (case zqhl => first | exact Fr.lst kFq (by assumption) | exact News.isList kNq (by k_mem)); (case zqhi => with_reducible assumption); (case zqhn => first | with_reducible assumption | exact Nat.le_trans (by with_reducible assumption) (Nat.le_of_ble_eq_true rfl) | omega)); intro _ _ _ _ _ _ _ _ _ _ _ _ _ _ _ _; clear kFq kNq) | (refine goOn ?_; k_here; (with_reducible show wpAny _ _ (PySem.call (Value.ref 130) _) _ _ _); (with_reducible rename Fr _ _ _ _ => kFq); (with_reducible rename News _ _ _ _ => kNq); k_dflt (refine' useDraw (c_law_draw ⟨?zqgx, ?zqgt⟩ kFq.keep ?zqhP ?zqhO ?zqhJP ?zqhJ ?zqhi ?zqhn ?zqhPb ?zqhm) kFq kNq ?zqU rfl (by first | exact Nat.le_of_ble_eq_true rfl | (dsimp only [Ar]; omega)) (by first | exact Nat.le_of_ble_eq_true rfl | (dsimp only [Ar]; omega)) ?_; (case zqgx => with_reducible assumption); (case zqgt => with_reducible assumption); (case zqhP => exact (kNq (_, _) (by k_mem)).1); (case zqhPb => exact (kNq (_, _) (by k_mem)).2.2); (case zqhO => with_reducible assumption); (case zqhJP => with_reducible assumption); (case zqhJ => first | exact Fr.lst kFq (by assumption) | exact News.isList kNq (by k_mem)); (case zqhi => with_reducible assumption); (case zqhn => first | with_reducible assumption | exact Nat.le_trans (by with_reducible assumption) (Nat.le_of_ble_eq_true rfl) | omega); (case zqhm => first | with_reducible assumption | omega); (case zqU => k_updF)); intro _ _ _ _ _ _ kNn; (try dsimp only [List.append] at kNn); revert kNn; intro _ _ _ _; clear kFq kNq) | (refine goOn ?_; k_here; (with_reducible show wpAny _ _ (PySem.call (Value.ref 154) _) _ _ _); (with_reducible rename Fr _ _ _ _ => kFq); (with_reducible rename News _ _ _ _ => kNq); k_dflt (refine' useDraw (c_law_number ⟨?zqgx, ?zqgt⟩ kFq.keep ?zqhP ?zqhO ?zqhJP ?zqhJ ?zqhi ?zqhn ?zqhPb ?zqw0 ?zqw1 ?zqm0 ?zqm1) kFq kNq ?zqU rfl (by first | exact Nat.le_of_ble_eq_true rfl | (dsimp only [Ar]; omega)) (by first | exact Nat.le_of_ble_eq_true rfl | (dsimp only [Ar]; omega)) ?_; (case zqgx => with_reducible assumption); (case zqgt => with_reducible assumption); (case zqhP => exact (kNq (_, _) (by k_mem)).1); (case zqhPb => exact (kNq (_, _) (by k_mem)).2.2); (case zqhO => with_reducible assumption); (case zqhJP => with_reducible assumption); (case zqhJ => first | exact Fr.lst kFq (by assumption) | exact News.isList kNq (by k_mem)); (case zqhi => with_reducible assumption); (case zqhn => first | with_reducible assumption | exact Nat.le_trans (by with_reducible assumption) (Nat.le_of_ble_eq_true rfl) | omega); (case zqw0 => first | with_reducible assumption | omega); (case zqw1 => first | with_reducible assumption | omega); (case zqm0 => first | with_reducible assumption | omega); (case zqm1 => first | with_reducible assumption | omega); (case zqU => k_updF)); intro _ _ _ _ _ _ kNn; (try dsimp only [List.append] at kNn); revert kNn; intro _ _ _ _; clear kFq kNq) | (refine goOn ?_; k_here; (with_reducible show wpAny _ _ (PySem.call (Value.ref 142) _) _ _ _); (with_reducible rename Fr _ _ _ _ => kFq); (with_reducible rename News _ _ _ _ => kNq); k_dflt (refine' useList (c_law_row ⟨?zqgx, ?zqgt⟩ kFq.keep ?zqw0 ?zqw1 ?zqn0 ?zqn1) kFq kNq rfl (by first | exact Nat.le_of_ble_eq_true rfl | (dsimp only [Ar]; omega)) (by first | exact Nat.le_of_ble_eq_true rfl | (dsimp only [Ar]; omega)) ?_; (case zqgx => with_reducible assumption); (case zqgt => with_reducible assumption); (case zqw0 => first | with_reducible assumption | omega); (case zqw1 => first | with_reducible assumption | omega); (case zqn0 => first | with_reducible assumption | omega); (case zqn1 => first | with_reducible assumption | omega)); intro _ _ _ _ _ _ _ _ _ _ zhP; have _ := zhP.1; have _ := zhP.2; clear zhP; clear kFq kNq) | (refine goOn ?_; k_here; (with_reducible show wpAny _ _ (PySem.call (Value.ref 102) _) _ _ _); (with_reducible rename Fr _ _ _ _ => kFq); (with_reducible rename News _ _ _ _ => kNq); k_dflt (refine' useList (c_put_together ⟨?zqgx, ?zqgt⟩ kFq.keep ?zqhl ?zqhl2 ?zqhl3 ?zqhi ?zqhi2 ?zqhi3 ?zqhn ?zqhn2 ?zqhn3 ?zqs0 ?zqs1 ?zqw0 ?zqw1 ?zqr1 ?zqr2 ?zqr3) kFq kNq rfl (by first | exact Nat.le_of_ble_eq_true rfl | (dsimp only [Ar]; omega)) (by first | exact Nat.le_of_ble_eq_true rfl | (dsimp only [Ar]; omega)) ?_; (case zqgx => with_reducible assumption); (case zqgt => with_reducible assumption); (case zqhl => first | exact Fr.lst kFq (by with_reducible assumption) | exact News.isList kNq (by k_mem)); (case zqhl2 => first | exact Fr.lst kFq (by with_reducible assumption) | exact News.isList kNq (by k_mem)); (case zqhl3 => first | exact Fr.lst kFq (by with_reducible assumption) | exact News.isList kNq (by k_mem)); (case zqhi => with_reducible assumption); (case zqhi2 => with_reducible assumption); (case zqhi3 => with_reducible assumption); (case zqhn => first | with_reducible assumption | exact Nat.le_trans (by with_reducible assumption) (Nat.le_of_ble_eq_true rfl) | exact le_max3 (by with_reducible assumption) (by with_reducible assumption) (by with_reducible assumption) (by with_reducible assumption) rfl | omega | (simp only [List.length_take, List.length_drop, List.length_append, List.length_cons, List.length_nil]; omega)); (case zqhn2 => first | with_reducible assumption | exact Nat.le_trans (by with_reducible assumption) (Nat.le_of_ble_eq_true rfl) | exact le_max3 (by with_reducible assumption) (by with_reducible assumption) (by with_reducible assumption) (by with_reducible assumption) rfl | omega | (simp only [List.length_take, List.length_drop, List.length_append, List.length_cons, List.length_nil]; omega)); (case zqhn3 => first | with_reducible assumption | exact Nat.le_trans (by with_reducible assumption) (Nat.le_of_ble_eq_true rfl) | exact le_max3 (by with_reducible assumption) (by with_reducible assumption) (by with_reducible assumption) (by with_reducible assumption) rfl | omega | (simp only [List.length_take, List.length_drop, List.length_append, List.length_cons, List.length_nil]; omega)); (case zqs0 => first | with_reducible assumption | omega | (simp only [List.length_take, List.length_drop, List.length_append, List.length_cons, List.length_nil]; omega)); (case zqs1 => first | with_reducible assumption | omega | (simp only [List.length_take, List.length_drop, List.length_append, List.length_cons, List.length_nil]; omega)); (case zqw0 => first | with_reducible assumption | omega | (simp only [List.length_take, List.length_drop, List.length_append, List.length_cons, List.length_nil]; omega)); (case zqw1 => first | with_reducible assumption | omega | (simp only [List.length_take, List.length_drop, List.length_append, List.length_cons, List.length_nil]; omega)); (case zqr1 => with_reducible assumption); (case zqr2 => with_reducible assumption); (case zqr3 => with_reducible assumption)); intro _ _ _ _ _ _ _ _ _ _ zhP; have _ := zhP.1; have _ := zhP.2.1; have _ := zhP.2.2; clear zhP; clear kFq kNq) | (refine goOn ?_; k_here; (with_reducible show wpAny _ _ (PySem.call (Value.ref 109) _) _ _ _); (with_reducible rename Fr _ _ _ _ => kFq); (with_reducible rename News _ _ _ _ => kNq); k_dflt (refine' useList (c_middle_of ⟨?zqgx, ?zqgt⟩ kFq.keep ?zqhl ?zqhl2 ?zqhl3 ?zqhi ?zqhi2 ?zqhi3 ?zqhn ?zqhn2 ?zqhn3 ?zqw0 ?zqw1 ?zqr1 ?zqr2 ?zqr3 ?zqge) kFq kNq rfl (by first | exact Nat.le_of_ble_eq_true rfl | (dsimp only [Ar]; omega)) (by first | exact Nat.le_of_ble_eq_true rfl | (dsimp only [Ar]; omega)) ?_; (case zqgx => with_reducible assumption); (case zqgt => with_reducible assumption); (case zqhl => first | exact Fr.lst kFq (by with_reducible assumption) | exact News.isList kNq (by k_mem)); (case zqhl2 => first | exact Fr.lst kFq (by with_reducible assumption) | exact News.isList kNq (by k_mem)); (case zqhl3 => first | exact Fr.lst kFq (by with_reducible assumption) | exact News.isList kNq (by k_mem)); (case zqhi => with_reducible assumption); (case zqhi2 => with_reducible assumption); (case zqhi3 => with_reducible assumption); (case zqhn => first | with_reducible assumption | exact Nat.le_trans (by with_reducible assumption) (Nat.le_of_ble_eq_true rfl) | omega | (simp only [List.length_take, List.length_drop, List.length_append, List.length_cons, List.length_nil]; omega)); (case zqhn2 => first | with_reducible assumption | exact Nat.le_trans (by with_reducible assumption) (Nat.le_of_ble_eq_true rfl) | omega | (simp only [List.length_take, List.length_drop, List.length_append, List.length_cons, List.length_nil]; omega)); (case zqhn3 => first | with_reducible assumption | exact Nat.le_trans (by with_reducible assumption) (Nat.le_of_ble_eq_true rfl) | omega | (simp only [List.length_take, List.length_drop, List.length_append, List.length_cons, List.length_nil]; omega)); (case zqw0 => first | with_reducible assumption | omega | (simp only [List.length_take, List.length_drop, List.length_append, List.length_cons, List.length_nil]; omega)); (case zqw1 => first | with_reducible assumption | omega | (simp only [List.length_take, List.length_drop, List.length_append, List.length_cons, List.length_nil]; omega)); (case zqr1 => with_reducible assumption); (case zqr2 => with_reducible assumption); (case zqr3 => with_reducible assumption); (case zqge => first | with_reducible assumption | (intro _; omega) | (intro hb0; cases hb0))); intro _ _ _ _ _ _ _ _ _ _ zhP; have _ := zhP.1; have _ := zhP.2.1; have _ := zhP.2.2; clear zhP; clear kFq kNq) | (refine goOn ?_; k_dflt (refine' kmk_slice_ints ?zqF ?zqN ?zql ?zqp ?zqq ?zqi ?zqm rfl ?_ ?zqs ?zqt ?zqz; (case zqF => k_asm); (case zqN => k_asm); (case zql => first | exact Fr.lst (by assumption) (by assumption) | exact News.isList (by assumption) (by k_mem)); (case zqp => kmk_part); (case zqq => kmk_part); (case zqi => assumption); (case zqm => first | exact kmk_all (by assumption) | exact kmk_from (by assumption) (by first | assumption | omega) | exact kmk_upto (by assumption) (by first | assumption | omega) | exact kmk_run (by assumption) (by first | assumption | omega) (by first | assumption | omega)); (case zqs => with_unfolding_all rfl); (case zqt => kmk_pure); (case zqz => exact sz_ok (by assumption) (by omega))); intro _ _ _ _ _ zl1 _ zhC zhL; (try k_lt zl1); (try k_sweep); clear zhC zhL) | (refine goOn ?_; with_reducible rename Fr _ _ _ _ => kFq; with_reducible rename News _ _ _ _ => kNq; k_dflt (refine' appD kFq kNq ?zqo ?zqz ?_; (case zqo => first | exact offOne (by assumption) | exact offNil | assumption); (case zqz => first | assumption | omega)); intro _ _ _; clear kFq kNq) | fail); (try k_steps))
  unfold Stop
  rename Fr _ _ _ _ => kF
  rename News _ _ _ _ => kN
  rename_i P o0 J us cJ nsJ hA tkA ne1 ne2 hO0 hJP hIJ hLJ hB tkB rw tw o1 hC tkC hO1 hrw0 hrw1 hD tkD one tone o2 hE tkE hO2 hone0 hone1 other tother o3 hF tkF hO3 hoth0 hoth1 Dt hG l1t hH hI9 hJ9
  obtain ⟨wv, hwv⟩ : ∃ wv, wv = 2 + rw := ⟨_, rfl⟩
  have hw0 : 1 ≤ wv := by omega
  have hw1 : wv ≤ 9 := by omega
  simp only [← hwv] at hone1 hoth1 kF ⊢
  have hB1 := base_gt hw0
  have hB2 := base_le hw1
  rw [show Int.toNat 9 = 9 from rfl] at hone1
  rw [show Int.toNat 3 = 3 from rfl] at hoth1
  have hone2 : one < 2 ^ 81 := Int.lt_of_lt_of_le hone1 (pow_bound (by omega) hB2 9)
  have hoth2 : other < 2 ^ 27 := Int.lt_of_lt_of_le hoth1 (pow_bound (by omega) hB2 3)
  have hone3 := lt_512 hone2 (by decide)
  have hoth3 := lt_512 hoth2 (by decide)
  have hone4 := bits_lt hone0 hone2
  have hoth4 := bits_lt hoth0 hoth2
  k_steps
  repeat' ((first | (refine goOn ?_; k_here; (with_reducible show wpAny _ _ (PySem.call (Value.ref 135) _) _ _ _); (with_reducible rename Fr _ _ _ _ => kFq); (with_reducible rename News _ _ _ _ => kNq); k_dflt (refine' usePool (c_law_pool ⟨?zqgx, ?zqgt⟩ kFq.keep ?zqhl ?zqhi ?zqhn) kFq kNq rfl (by first | exact Nat.le_of_ble_eq_true rfl | (dsimp only [Ar]; omega)) (by first | exact Nat.le_of_ble_eq_true rfl | (dsimp only [Ar]; omega)) ?_; (case zqgx => with_reducible assumption); (case zqgt => with_reducible assumption); (case zqhl => first | exact Fr.lst kFq (by assumption) | exact News.isList kNq (by k_mem)); (case zqhi => with_reducible assumption); (case zqhn => first | with_reducible assumption | exact Nat.le_trans (by with_reducible assumption) (Nat.le_of_ble_eq_true rfl) | omega)); intro _ _ _ _ _ _ _ _ _ _ _ _ _ _ _ _; clear kFq kNq) | (refine goOn ?_; k_here; (with_reducible show wpAny _ _ (PySem.call (Value.ref 130) _) _ _ _); (with_reducible rename Fr _ _ _ _ => kFq); (with_reducible rename News _ _ _ _ => kNq); k_dflt (refine' useDraw (c_law_draw ⟨?zqgx, ?zqgt⟩ kFq.keep ?zqhP ?zqhO ?zqhJP ?zqhJ ?zqhi ?zqhn ?zqhPb ?zqhm) kFq kNq ?zqU rfl (by first | exact Nat.le_of_ble_eq_true rfl | (dsimp only [Ar]; omega)) (by first | exact Nat.le_of_ble_eq_true rfl | (dsimp only [Ar]; omega)) ?_; (case zqgx => with_reducible assumption); (case zqgt => with_reducible assumption); (case zqhP => exact (kNq (_, _) (by k_mem)).1); (case zqhPb => exact (kNq (_, _) (by k_mem)).2.2); (case zqhO => with_reducible assumption); (case zqhJP => with_reducible assumption); (case zqhJ => first | exact Fr.lst kFq (by assumption) | exact News.isList kNq (by k_mem)); (case zqhi => with_reducible assumption); (case zqhn => first | with_reducible assumption | exact Nat.le_trans (by with_reducible assumption) (Nat.le_of_ble_eq_true rfl) | omega); (case zqhm => first | with_reducible assumption | omega); (case zqU => k_updF)); intro _ _ _ _ _ _ kNn; (try dsimp only [List.append] at kNn); revert kNn; intro _ _ _ _; clear kFq kNq) | (refine goOn ?_; k_here; (with_reducible show wpAny _ _ (PySem.call (Value.ref 154) _) _ _ _); (with_reducible rename Fr _ _ _ _ => kFq); (with_reducible rename News _ _ _ _ => kNq); k_dflt (refine' useDraw (c_law_number ⟨?zqgx, ?zqgt⟩ kFq.keep ?zqhP ?zqhO ?zqhJP ?zqhJ ?zqhi ?zqhn ?zqhPb ?zqw0 ?zqw1 ?zqm0 ?zqm1) kFq kNq ?zqU rfl (by first | exact Nat.le_of_ble_eq_true rfl | (dsimp only [Ar]; omega)) (by first | exact Nat.le_of_ble_eq_true rfl | (dsimp only [Ar]; omega)) ?_; (case zqgx => with_reducible assumption); (case zqgt => with_reducible assumption); (case zqhP => exact (kNq (_, _) (by k_mem)).1); (case zqhPb => exact (kNq (_, _) (by k_mem)).2.2); (case zqhO => with_reducible assumption); (case zqhJP => with_reducible assumption); (case zqhJ => first | exact Fr.lst kFq (by assumption) | exact News.isList kNq (by k_mem)); (case zqhi => with_reducible assumption); (case zqhn => first | with_reducible assumption | exact Nat.le_trans (by with_reducible assumption) (Nat.le_of_ble_eq_true rfl) | omega); (case zqw0 => first | with_reducible assumption | omega); (case zqw1 => first | with_reducible assumption | omega); (case zqm0 => first | with_reducible assumption | omega); (case zqm1 => first | with_reducible assumption | omega); (case zqU => k_updF)); intro _ _ _ _ _ _ kNn; (try dsimp only [List.append] at kNn); revert kNn; intro _ _ _ _; clear kFq kNq) | (refine goOn ?_; k_here; (with_reducible show wpAny _ _ (PySem.call (Value.ref 142) _) _ _ _); (with_reducible rename Fr _ _ _ _ => kFq); (with_reducible rename News _ _ _ _ => kNq); k_dflt (refine' useList (c_law_row ⟨?zqgx, ?zqgt⟩ kFq.keep ?zqw0 ?zqw1 ?zqn0 ?zqn1) kFq kNq rfl (by first | exact Nat.le_of_ble_eq_true rfl | (dsimp only [Ar]; omega)) (by first | exact Nat.le_of_ble_eq_true rfl | (dsimp only [Ar]; omega)) ?_; (case zqgx => with_reducible assumption); (case zqgt => with_reducible assumption); (case zqw0 => first | with_reducible assumption | omega); (case zqw1 => first | with_reducible assumption | omega); (case zqn0 => first | with_reducible assumption | omega); (case zqn1 => first | with_reducible assumption | omega)); intro _ _ _ _ _ _ _ _ _ _ zhP; have _ := zhP.1; have _ := zhP.2; clear zhP; clear kFq kNq) | (refine goOn ?_; k_here; (with_reducible show wpAny _ _ (PySem.call (Value.ref 102) _) _ _ _); (with_reducible rename Fr _ _ _ _ => kFq); (with_reducible rename News _ _ _ _ => kNq); k_dflt (refine' useList (c_put_together ⟨?zqgx, ?zqgt⟩ kFq.keep ?zqhl ?zqhl2 ?zqhl3 ?zqhi ?zqhi2 ?zqhi3 ?zqhn ?zqhn2 ?zqhn3 ?zqs0 ?zqs1 ?zqw0 ?zqw1 ?zqr1 ?zqr2 ?zqr3) kFq kNq rfl (by first | exact Nat.le_of_ble_eq_true rfl | (dsimp only [Ar]; omega)) (by first | exact Nat.le_of_ble_eq_true rfl | (dsimp only [Ar]; omega)) ?_; (case zqgx => with_reducible assumption); (case zqgt => with_reducible assumption); (case zqhl => first | exact Fr.lst kFq (by with_reducible assumption) | exact News.isList kNq (by k_mem)); (case zqhl2 => first | exact Fr.lst kFq (by with_reducible assumption) | exact News.isList kNq (by k_mem)); (case zqhl3 => first | exact Fr.lst kFq (by with_reducible assumption) | exact News.isList kNq (by k_mem)); (case zqhi => with_reducible assumption); (case zqhi2 => with_reducible assumption); (case zqhi3 => with_reducible assumption); (case zqhn => first | with_reducible assumption | exact Nat.le_trans (by with_reducible assumption) (Nat.le_of_ble_eq_true rfl) | exact le_max3 (by with_reducible assumption) (by with_reducible assumption) (by with_reducible assumption) (by with_reducible assumption) rfl | omega | (simp only [List.length_take, List.length_drop, List.length_append, List.length_cons, List.length_nil]; omega)); (case zqhn2 => first | with_reducible assumption | exact Nat.le_trans (by with_reducible assumption) (Nat.le_of_ble_eq_true rfl) | exact le_max3 (by with_reducible assumption) (by with_reducible assumption) (by with_reducible assumption) (by with_reducible assumption) rfl | omega | (simp only [List.length_take, List.length_drop, List.length_append, List.length_cons, List.length_nil]; omega)); (case zqhn3 => first | with_reducible assumption | exact Nat.le_trans (by with_reducible assumption) (Nat.le_of_ble_eq_true rfl) | exact le_max3 (by with_reducible assumption) (by with_reducible assumption) (by with_reducible assumption) (by with_reducible assumption) rfl | omega | (simp only [List.length_take, List.length_drop, List.length_append, List.length_cons, List.length_nil]; omega)); (case zqs0 => first | with_reducible assumption | omega | (simp only [List.length_take, List.length_drop, List.length_append, List.length_cons, List.length_nil]; omega)); (case zqs1 => first | with_reducible assumption | omega | (simp only [List.length_take, List.length_drop, List.length_append, List.length_cons, List.length_nil]; omega)); (case zqw0 => first | with_reducible assumption | omega | (simp only [List.length_take, List.length_drop, List.length_append, List.length_cons, List.length_nil]; omega)); (case zqw1 => first | with_reducible assumption | omega | (simp only [List.length_take, List.length_drop, List.length_append, List.length_cons, List.length_nil]; omega)); (case zqr1 => with_reducible assumption); (case zqr2 => with_reducible assumption); (case zqr3 => with_reducible assumption)); intro _ _ _ _ _ _ _ _ _ _ zhP; have _ := zhP.1; have _ := zhP.2.1; have _ := zhP.2.2; clear zhP; clear kFq kNq) | (refine goOn ?_; k_here; (with_reducible show wpAny _ _ (PySem.call (Value.ref 109) _) _ _ _); (with_reducible rename Fr _ _ _ _ => kFq); (with_reducible rename News _ _ _ _ => kNq); k_dflt (refine' useList (c_middle_of ⟨?zqgx, ?zqgt⟩ kFq.keep ?zqhl ?zqhl2 ?zqhl3 ?zqhi ?zqhi2 ?zqhi3 ?zqhn ?zqhn2 ?zqhn3 ?zqw0 ?zqw1 ?zqr1 ?zqr2 ?zqr3 ?zqge) kFq kNq rfl (by first | exact Nat.le_of_ble_eq_true rfl | (dsimp only [Ar]; omega)) (by first | exact Nat.le_of_ble_eq_true rfl | (dsimp only [Ar]; omega)) ?_; (case zqgx => with_reducible assumption); (case zqgt => with_reducible assumption); (case zqhl => first | exact Fr.lst kFq (by with_reducible assumption) | exact News.isList kNq (by k_mem)); (case zqhl2 => first | exact Fr.lst kFq (by with_reducible assumption) | exact News.isList kNq (by k_mem)); (case zqhl3 => first | exact Fr.lst kFq (by with_reducible assumption) | exact News.isList kNq (by k_mem)); (case zqhi => with_reducible assumption); (case zqhi2 => with_reducible assumption); (case zqhi3 => with_reducible assumption); (case zqhn => first | with_reducible assumption | exact Nat.le_trans (by with_reducible assumption) (Nat.le_of_ble_eq_true rfl) | omega | (simp only [List.length_take, List.length_drop, List.length_append, List.length_cons, List.length_nil]; omega)); (case zqhn2 => first | with_reducible assumption | exact Nat.le_trans (by with_reducible assumption) (Nat.le_of_ble_eq_true rfl) | omega | (simp only [List.length_take, List.length_drop, List.length_append, List.length_cons, List.length_nil]; omega)); (case zqhn3 => first | with_reducible assumption | exact Nat.le_trans (by with_reducible assumption) (Nat.le_of_ble_eq_true rfl) | omega | (simp only [List.length_take, List.length_drop, List.length_append, List.length_cons, List.length_nil]; omega)); (case zqw0 => first | with_reducible assumption | omega | (simp only [List.length_take, List.length_drop, List.length_append, List.length_cons, List.length_nil]; omega)); (case zqw1 => first | with_reducible assumption | omega | (simp only [List.length_take, List.length_drop, List.length_append, List.length_cons, List.length_nil]; omega)); (case zqr1 => with_reducible assumption); (case zqr2 => with_reducible assumption); (case zqr3 => with_reducible assumption); (case zqge => first | with_reducible assumption | (intro _; omega) | (intro hb0; cases hb0))); intro _ _ _ _ _ _ _ _ _ _ zhP; have _ := zhP.1; have _ := zhP.2.1; have _ := zhP.2.2; clear zhP; clear kFq kNq) | (refine goOn ?_; k_dflt (refine' kmk_slice_ints ?zqF ?zqN ?zql ?zqp ?zqq ?zqi ?zqm rfl ?_ ?zqs ?zqt ?zqz; (case zqF => k_asm); (case zqN => k_asm); (case zql => first | exact Fr.lst (by assumption) (by assumption) | exact News.isList (by assumption) (by k_mem)); (case zqp => kmk_part); (case zqq => kmk_part); (case zqi => assumption); (case zqm => first | exact kmk_all (by assumption) | exact kmk_from (by assumption) (by first | assumption | omega) | exact kmk_upto (by assumption) (by first | assumption | omega) | exact kmk_run (by assumption) (by first | assumption | omega) (by first | assumption | omega)); (case zqs => with_unfolding_all rfl); (case zqt => kmk_pure); (case zqz => exact sz_ok (by assumption) (by omega))); intro _ _ _ _ _ zl1 _ zhC zhL; (try k_lt zl1); (try k_sweep); clear zhC zhL) | (refine goOn ?_; with_reducible rename Fr _ _ _ _ => kFq; with_reducible rename News _ _ _ _ => kNq; k_dflt (refine' appD kFq kNq ?zqo ?zqz ?_; (case zqo => first | exact offOne (by assumption) | exact offNil | assumption); (case zqz => first | assumption | omega)); intro _ _ _; clear kFq kNq) | fail); (try k_steps))
  unfold Stop
  rename Fr _ _ _ _ => kF
  rename News _ _ _ _ => kN
  rename _ = Data.cell _ => hdb
  rename_i Da usa ca msa hx1 tkx1 nea hIa hRa hVa Db usb cb msb hx2 tkx2 neb hIb hRb hVb Dt2 ht2 l12 ha1 ha2 ha3 ob
  rename Shared => s1
  refine For_invVF kF (by rfl) (by rfl) ?_
  k_steps
  repeat' ((first | (refine goOn ?_; k_here; (with_reducible show wpAny _ _ (PySem.call (Value.ref 135) _) _ _ _); (with_reducible rename Fr _ _ _ _ => kFq); (with_reducible rename News _ _ _ _ => kNq); k_dflt (refine' usePool (c_law_pool ⟨?zqgx, ?zqgt⟩ kFq.keep ?zqhl ?zqhi ?zqhn) kFq kNq rfl (by first | exact Nat.le_of_ble_eq_true rfl | (dsimp only [Ar]; omega)) (by first | exact Nat.le_of_ble_eq_true rfl | (dsimp only [Ar]; omega)) ?_; (case zqgx => with_reducible assumption); (case zqgt => with_reducible assumption); (case zqhl => first | exact Fr.lst kFq (by assumption) | exact News.isList kNq (by k_mem)); (case zqhi => with_reducible assumption); (case zqhn => first | with_reducible assumption | exact Nat.le_trans (by with_reducible assumption) (Nat.le_of_ble_eq_true rfl) | omega)); intro _ _ _ _ _ _ _ _ _ _ _ _ _ _ _ _; clear kFq kNq) | (refine goOn ?_; k_here; (with_reducible show wpAny _ _ (PySem.call (Value.ref 130) _) _ _ _); (with_reducible rename Fr _ _ _ _ => kFq); (with_reducible rename News _ _ _ _ => kNq); k_dflt (refine' useDraw (c_law_draw ⟨?zqgx, ?zqgt⟩ kFq.keep ?zqhP ?zqhO ?zqhJP ?zqhJ ?zqhi ?zqhn ?zqhPb ?zqhm) kFq kNq ?zqU rfl (by first | exact Nat.le_of_ble_eq_true rfl | (dsimp only [Ar]; omega)) (by first | exact Nat.le_of_ble_eq_true rfl | (dsimp only [Ar]; omega)) ?_; (case zqgx => with_reducible assumption); (case zqgt => with_reducible assumption); (case zqhP => exact (kNq (_, _) (by k_mem)).1); (case zqhPb => exact (kNq (_, _) (by k_mem)).2.2); (case zqhO => with_reducible assumption); (case zqhJP => with_reducible assumption); (case zqhJ => first | exact Fr.lst kFq (by assumption) | exact News.isList kNq (by k_mem)); (case zqhi => with_reducible assumption); (case zqhn => first | with_reducible assumption | exact Nat.le_trans (by with_reducible assumption) (Nat.le_of_ble_eq_true rfl) | omega); (case zqhm => first | with_reducible assumption | omega); (case zqU => k_updF)); intro _ _ _ _ _ _ kNn; (try dsimp only [List.append] at kNn); revert kNn; intro _ _ _ _; clear kFq kNq) | (refine goOn ?_; k_here; (with_reducible show wpAny _ _ (PySem.call (Value.ref 154) _) _ _ _); (with_reducible rename Fr _ _ _ _ => kFq); (with_reducible rename News _ _ _ _ => kNq); k_dflt (refine' useDraw (c_law_number ⟨?zqgx, ?zqgt⟩ kFq.keep ?zqhP ?zqhO ?zqhJP ?zqhJ ?zqhi ?zqhn ?zqhPb ?zqw0 ?zqw1 ?zqm0 ?zqm1) kFq kNq ?zqU rfl (by first | exact Nat.le_of_ble_eq_true rfl | (dsimp only [Ar]; omega)) (by first | exact Nat.le_of_ble_eq_true rfl | (dsimp only [Ar]; omega)) ?_; (case zqgx => with_reducible assumption); (case zqgt => with_reducible assumption); (case zqhP => exact (kNq (_, _) (by k_mem)).1); (case zqhPb => exact (kNq (_, _) (by k_mem)).2.2); (case zqhO => with_reducible assumption); (case zqhJP => with_reducible assumption); (case zqhJ => first | exact Fr.lst kFq (by assumption) | exact News.isList kNq (by k_mem)); (case zqhi => with_reducible assumption); (case zqhn => first | with_reducible assumption | exact Nat.le_trans (by with_reducible assumption) (Nat.le_of_ble_eq_true rfl) | omega); (case zqw0 => first | with_reducible assumption | omega); (case zqw1 => first | with_reducible assumption | omega); (case zqm0 => first | with_reducible assumption | omega); (case zqm1 => first | with_reducible assumption | omega); (case zqU => k_updF)); intro _ _ _ _ _ _ kNn; (try dsimp only [List.append] at kNn); revert kNn; intro _ _ _ _; clear kFq kNq) | (refine goOn ?_; k_here; (with_reducible show wpAny _ _ (PySem.call (Value.ref 142) _) _ _ _); (with_reducible rename Fr _ _ _ _ => kFq); (with_reducible rename News _ _ _ _ => kNq); k_dflt (refine' useList (c_law_row ⟨?zqgx, ?zqgt⟩ kFq.keep ?zqw0 ?zqw1 ?zqn0 ?zqn1) kFq kNq rfl (by first | exact Nat.le_of_ble_eq_true rfl | (dsimp only [Ar]; omega)) (by first | exact Nat.le_of_ble_eq_true rfl | (dsimp only [Ar]; omega)) ?_; (case zqgx => with_reducible assumption); (case zqgt => with_reducible assumption); (case zqw0 => first | with_reducible assumption | omega); (case zqw1 => first | with_reducible assumption | omega); (case zqn0 => first | with_reducible assumption | omega); (case zqn1 => first | with_reducible assumption | omega)); intro _ _ _ _ _ _ _ _ _ _ zhP; have _ := zhP.1; have _ := zhP.2; clear zhP; clear kFq kNq) | (refine goOn ?_; k_here; (with_reducible show wpAny _ _ (PySem.call (Value.ref 102) _) _ _ _); (with_reducible rename Fr _ _ _ _ => kFq); (with_reducible rename News _ _ _ _ => kNq); k_dflt (refine' useList (c_put_together ⟨?zqgx, ?zqgt⟩ kFq.keep ?zqhl ?zqhl2 ?zqhl3 ?zqhi ?zqhi2 ?zqhi3 ?zqhn ?zqhn2 ?zqhn3 ?zqs0 ?zqs1 ?zqw0 ?zqw1 ?zqr1 ?zqr2 ?zqr3) kFq kNq rfl (by first | exact Nat.le_of_ble_eq_true rfl | (dsimp only [Ar]; omega)) (by first | exact Nat.le_of_ble_eq_true rfl | (dsimp only [Ar]; omega)) ?_; (case zqgx => with_reducible assumption); (case zqgt => with_reducible assumption); (case zqhl => first | exact Fr.lst kFq (by with_reducible assumption) | exact News.isList kNq (by k_mem)); (case zqhl2 => first | exact Fr.lst kFq (by with_reducible assumption) | exact News.isList kNq (by k_mem)); (case zqhl3 => first | exact Fr.lst kFq (by with_reducible assumption) | exact News.isList kNq (by k_mem)); (case zqhi => with_reducible assumption); (case zqhi2 => with_reducible assumption); (case zqhi3 => with_reducible assumption); (case zqhn => first | with_reducible assumption | exact Nat.le_trans (by with_reducible assumption) (Nat.le_of_ble_eq_true rfl) | exact le_max3 (by with_reducible assumption) (by with_reducible assumption) (by with_reducible assumption) (by with_reducible assumption) rfl | omega | (simp only [List.length_take, List.length_drop, List.length_append, List.length_cons, List.length_nil]; omega)); (case zqhn2 => first | with_reducible assumption | exact Nat.le_trans (by with_reducible assumption) (Nat.le_of_ble_eq_true rfl) | exact le_max3 (by with_reducible assumption) (by with_reducible assumption) (by with_reducible assumption) (by with_reducible assumption) rfl | omega | (simp only [List.length_take, List.length_drop, List.length_append, List.length_cons, List.length_nil]; omega)); (case zqhn3 => first | with_reducible assumption | exact Nat.le_trans (by with_reducible assumption) (Nat.le_of_ble_eq_true rfl) | exact le_max3 (by with_reducible assumption) (by with_reducible assumption) (by with_reducible assumption) (by with_reducible assumption) rfl | omega | (simp only [List.length_take, List.length_drop, List.length_append, List.length_cons, List.length_nil]; omega)); (case zqs0 => first | with_reducible assumption | omega | (simp only [List.length_take, List.length_drop, List.length_append, List.length_cons, List.length_nil]; omega)); (case zqs1 => first | with_reducible assumption | omega | (simp only [List.length_take, List.length_drop, List.length_append, List.length_cons, List.length_nil]; omega)); (case zqw0 => first | with_reducible assumption | omega | (simp only [List.length_take, List.length_drop, List.length_append, List.length_cons, List.length_nil]; omega)); (case zqw1 => first | with_reducible assumption | omega | (simp only [List.length_take, List.length_drop, List.length_append, List.length_cons, List.length_nil]; omega)); (case zqr1 => with_reducible assumption); (case zqr2 => with_reducible assumption); (case zqr3 => with_reducible assumption)); intro _ _ _ _ _ _ _ _ _ _ zhP; have _ := zhP.1; have _ := zhP.2.1; have _ := zhP.2.2; clear zhP; clear kFq kNq) | (refine goOn ?_; k_here; (with_reducible show wpAny _ _ (PySem.call (Value.ref 109) _) _ _ _); (with_reducible rename Fr _ _ _ _ => kFq); (with_reducible rename News _ _ _ _ => kNq); k_dflt (refine' useList (c_middle_of ⟨?zqgx, ?zqgt⟩ kFq.keep ?zqhl ?zqhl2 ?zqhl3 ?zqhi ?zqhi2 ?zqhi3 ?zqhn ?zqhn2 ?zqhn3 ?zqw0 ?zqw1 ?zqr1 ?zqr2 ?zqr3 ?zqge) kFq kNq rfl (by first | exact Nat.le_of_ble_eq_true rfl | (dsimp only [Ar]; omega)) (by first | exact Nat.le_of_ble_eq_true rfl | (dsimp only [Ar]; omega)) ?_; (case zqgx => with_reducible assumption); (case zqgt => with_reducible assumption); (case zqhl => first | exact Fr.lst kFq (by with_reducible assumption) | exact News.isList kNq (by k_mem)); (case zqhl2 => first | exact Fr.lst kFq (by with_reducible assumption) | exact News.isList kNq (by k_mem)); (case zqhl3 => first | exact Fr.lst kFq (by with_reducible assumption) | exact News.isList kNq (by k_mem)); (case zqhi => with_reducible assumption); (case zqhi2 => with_reducible assumption); (case zqhi3 => with_reducible assumption); (case zqhn => first | with_reducible assumption | exact Nat.le_trans (by with_reducible assumption) (Nat.le_of_ble_eq_true rfl) | omega | (simp only [List.length_take, List.length_drop, List.length_append, List.length_cons, List.length_nil]; omega)); (case zqhn2 => first | with_reducible assumption | exact Nat.le_trans (by with_reducible assumption) (Nat.le_of_ble_eq_true rfl) | omega | (simp only [List.length_take, List.length_drop, List.length_append, List.length_cons, List.length_nil]; omega)); (case zqhn3 => first | with_reducible assumption | exact Nat.le_trans (by with_reducible assumption) (Nat.le_of_ble_eq_true rfl) | omega | (simp only [List.length_take, List.length_drop, List.length_append, List.length_cons, List.length_nil]; omega)); (case zqw0 => first | with_reducible assumption | omega | (simp only [List.length_take, List.length_drop, List.length_append, List.length_cons, List.length_nil]; omega)); (case zqw1 => first | with_reducible assumption | omega | (simp only [List.length_take, List.length_drop, List.length_append, List.length_cons, List.length_nil]; omega)); (case zqr1 => with_reducible assumption); (case zqr2 => with_reducible assumption); (case zqr3 => with_reducible assumption); (case zqge => first | with_reducible assumption | (intro _; omega) | (intro hb0; cases hb0))); intro _ _ _ _ _ _ _ _ _ _ zhP; have _ := zhP.1; have _ := zhP.2.1; have _ := zhP.2.2; clear zhP; clear kFq kNq) | (refine goOn ?_; k_dflt (refine' kmk_slice_ints ?zqF ?zqN ?zql ?zqp ?zqq ?zqi ?zqm rfl ?_ ?zqs ?zqt ?zqz; (case zqF => k_asm); (case zqN => k_asm); (case zql => first | exact Fr.lst (by assumption) (by assumption) | exact News.isList (by assumption) (by k_mem)); (case zqp => kmk_part); (case zqq => kmk_part); (case zqi => assumption); (case zqm => first | exact kmk_all (by assumption) | exact kmk_from (by assumption) (by first | assumption | omega) | exact kmk_upto (by assumption) (by first | assumption | omega) | exact kmk_run (by assumption) (by first | assumption | omega) (by first | assumption | omega)); (case zqs => with_unfolding_all rfl); (case zqt => kmk_pure); (case zqz => exact sz_ok (by assumption) (by omega))); intro _ _ _ _ _ zl1 _ zhC zhL; (try k_lt zl1); (try k_sweep); clear zhC zhL) | (refine goOn ?_; with_reducible rename Fr _ _ _ _ => kFq; with_reducible rename News _ _ _ _ => kNq; k_dflt (refine' appD kFq kNq ?zqo ?zqz ?_; (case zqo => first | exact offOne (by assumption) | exact offNil | assumption); (case zqz => first | assumption | omega)); intro _ _ _; clear kFq kNq) | fail); (try k_steps))
  unfold Stop
  dsimp only
  rename Fr _ _ _ _ => kF
  rename News _ _ _ _ => kN
  rename_i lr tlr o4 h4 tk4 hO4 hlr0 hlr1 tp h5 l15
  refine' loopTup (tab := 156) (ps0 := #[]) (items := #[Value.int 0 tk, Value.int 3 (tk + 1), Value.int (1 + lr) tk4]) [(Da, listOf (List.toArray usa) ca), (Db, listOf (List.toArray usb) cb), (P, o4), (J, listOf (List.toArray us) cJ), (s1.heap.objs.size + 1, ob), (163, tabObj #[])] [Str.ofString "told"] (fun _ ps hx => TabS ps hx)
    (fun h => h.off) rfl ?hot kF (kst_newsOf kN ?kk) ?tt TabS.zero ?_ ?_
  case tt => k_ne
  case kk => exact List.forall_mem_cons.mpr ⟨by k_mem, List.forall_mem_cons.mpr ⟨by k_mem, List.forall_mem_cons.mpr ⟨by k_mem, List.forall_mem_cons.mpr ⟨by k_mem, List.forall_mem_cons.mpr ⟨by k_mem, List.forall_mem_cons.mpr ⟨by k_mem, List.forall_mem_cons.mpr ⟨by k_mem, List.forall_mem_cons.mpr ⟨by k_mem, List.forall_mem_nil _⟩⟩⟩⟩⟩⟩⟩⟩
  case hot => exact ⟨rfl, _, rfl⟩
  · clear kF kN
    intro i v ps hx tl own I oI u h tk hv hJ hown hhx hI hxI htab kF kN
    obtain ⟨lv, tlv, rfl, hlv0, hlv1⟩ := least_of hlr0 hlr1 hv
    simp only [List.cons_append, List.nil_append] at kN
    try dsimp only at kF
    k_fold
    have hoo := mul_lt_pow hone0 hone2 hone0 hone2
    have hoo0 := hoo.1
    have hoo1 := lt_512 hoo.2 (by decide)
    have hoom := IntMulOk.of_le hone4 hone4 (by decide)
    have hna := row_short hB1 hRa (hVa ▸ hone1)
    obtain ⟨c0, o0, hsp⟩ := hJ.split
    k_steps
    repeat' ((first | (refine goOn ?_; k_here; (with_reducible show wpAny _ _ (PySem.call (Value.ref 135) _) _ _ _); (with_reducible rename Fr _ _ _ _ => kFq); (with_reducible rename News _ _ _ _ => kNq); k_dflt (refine' usePool (c_law_pool ⟨?zqgx, ?zqgt⟩ kFq.keep ?zqhl ?zqhi ?zqhn) kFq kNq rfl (by first | exact Nat.le_of_ble_eq_true rfl | (dsimp only [Ar]; omega)) (by first | exact Nat.le_of_ble_eq_true rfl | (dsimp only [Ar]; omega)) ?_; (case zqgx => with_reducible assumption); (case zqgt => with_reducible assumption); (case zqhl => first | exact Fr.lst kFq (by assumption) | exact News.isList kNq (by k_mem)); (case zqhi => with_reducible assumption); (case zqhn => first | with_reducible assumption | exact Nat.le_trans (by with_reducible assumption) (Nat.le_of_ble_eq_true rfl) | omega)); intro _ _ _ _ _ _ _ _ _ _ _ _ _ _ _ _; clear kFq kNq) | (refine goOn ?_; k_here; (with_reducible show wpAny _ _ (PySem.call (Value.ref 130) _) _ _ _); (with_reducible rename Fr _ _ _ _ => kFq); (with_reducible rename News _ _ _ _ => kNq); k_dflt (refine' useDraw (c_law_draw ⟨?zqgx, ?zqgt⟩ kFq.keep ?zqhP ?zqhO ?zqhJP ?zqhJ ?zqhi ?zqhn ?zqhPb ?zqhm) kFq kNq ?zqU rfl (by first | exact Nat.le_of_ble_eq_true rfl | (dsimp only [Ar]; omega)) (by first | exact Nat.le_of_ble_eq_true rfl | (dsimp only [Ar]; omega)) ?_; (case zqgx => with_reducible assumption); (case zqgt => with_reducible assumption); (case zqhP => exact (kNq (_, _) (by k_mem)).1); (case zqhPb => exact (kNq (_, _) (by k_mem)).2.2); (case zqhO => with_reducible assumption); (case zqhJP => with_reducible assumption); (case zqhJ => first | exact Fr.lst kFq (by assumption) | exact News.isList kNq (by k_mem)); (case zqhi => with_reducible assumption); (case zqhn => first | with_reducible assumption | exact Nat.le_trans (by with_reducible assumption) (Nat.le_of_ble_eq_true rfl) | omega); (case zqhm => first | with_reducible assumption | omega); (case zqU => k_updF)); intro _ _ _ _ _ _ kNn; (try dsimp only [List.append] at kNn); revert kNn; intro _ _ _ _; clear kFq kNq) | (refine goOn ?_; k_here; (with_reducible show wpAny _ _ (PySem.call (Value.ref 154) _) _ _ _); (with_reducible rename Fr _ _ _ _ => kFq); (with_reducible rename News _ _ _ _ => kNq); k_dflt (refine' useDraw (c_law_number ⟨?zqgx, ?zqgt⟩ kFq.keep ?zqhP ?zqhO ?zqhJP ?zqhJ ?zqhi ?zqhn ?zqhPb ?zqw0 ?zqw1 ?zqm0 ?zqm1) kFq kNq ?zqU rfl (by first | exact Nat.le_of_ble_eq_true rfl | (dsimp only [Ar]; omega)) (by first | exact Nat.le_of_ble_eq_true rfl | (dsimp only [Ar]; omega)) ?_; (case zqgx => with_reducible assumption); (case zqgt => with_reducible assumption); (case zqhP => exact (kNq (_, _) (by k_mem)).1); (case zqhPb => exact (kNq (_, _) (by k_mem)).2.2); (case zqhO => with_reducible assumption); (case zqhJP => with_reducible assumption); (case zqhJ => first | exact Fr.lst kFq (by assumption) | exact News.isList kNq (by k_mem)); (case zqhi => with_reducible assumption); (case zqhn => first | with_reducible assumption | exact Nat.le_trans (by with_reducible assumption) (Nat.le_of_ble_eq_true rfl) | omega); (case zqw0 => first | with_reducible assumption | omega); (case zqw1 => first | with_reducible assumption | omega); (case zqm0 => first | with_reducible assumption | omega); (case zqm1 => first | with_reducible assumption | omega); (case zqU => k_updF)); intro _ _ _ _ _ _ kNn; (try dsimp only [List.append] at kNn); revert kNn; intro _ _ _ _; clear kFq kNq) | (refine goOn ?_; k_here; (with_reducible show wpAny _ _ (PySem.call (Value.ref 142) _) _ _ _); (with_reducible rename Fr _ _ _ _ => kFq); (with_reducible rename News _ _ _ _ => kNq); k_dflt (refine' useList (c_law_row ⟨?zqgx, ?zqgt⟩ kFq.keep ?zqw0 ?zqw1 ?zqn0 ?zqn1) kFq kNq rfl (by first | exact Nat.le_of_ble_eq_true rfl | (dsimp only [Ar]; omega)) (by first | exact Nat.le_of_ble_eq_true rfl | (dsimp only [Ar]; omega)) ?_; (case zqgx => with_reducible assumption); (case zqgt => with_reducible assumption); (case zqw0 => first | with_reducible assumption | omega); (case zqw1 => first | with_reducible assumption | omega); (case zqn0 => first | with_reducible assumption | omega); (case zqn1 => first | with_reducible assumption | omega)); intro _ _ _ _ _ _ _ _ _ _ zhP; have _ := zhP.1; have _ := zhP.2; clear zhP; clear kFq kNq) | (refine goOn ?_; k_here; (with_reducible show wpAny _ _ (PySem.call (Value.ref 102) _) _ _ _); (with_reducible rename Fr _ _ _ _ => kFq); (with_reducible rename News _ _ _ _ => kNq); k_dflt (refine' useList (c_put_together ⟨?zqgx, ?zqgt⟩ kFq.keep ?zqhl ?zqhl2 ?zqhl3 ?zqhi ?zqhi2 ?zqhi3 ?zqhn ?zqhn2 ?zqhn3 ?zqs0 ?zqs1 ?zqw0 ?zqw1 ?zqr1 ?zqr2 ?zqr3) kFq kNq rfl (by first | exact Nat.le_of_ble_eq_true rfl | (dsimp only [Ar]; omega)) (by first | exact Nat.le_of_ble_eq_true rfl | (dsimp only [Ar]; omega)) ?_; (case zqgx => with_reducible assumption); (case zqgt => with_reducible assumption); (case zqhl => first | exact Fr.lst kFq (by with_reducible assumption) | exact News.isList kNq (by k_mem)); (case zqhl2 => first | exact Fr.lst kFq (by with_reducible assumption) | exact News.isList kNq (by k_mem)); (case zqhl3 => first | exact Fr.lst kFq (by with_reducible assumption) | exact News.isList kNq (by k_mem)); (case zqhi => with_reducible assumption); (case zqhi2 => with_reducible assumption); (case zqhi3 => with_reducible assumption); (case zqhn => first | with_reducible assumption | exact Nat.le_trans (by with_reducible assumption) (Nat.le_of_ble_eq_true rfl) | exact le_max3 (by with_reducible assumption) (by with_reducible assumption) (by with_reducible assumption) (by with_reducible assumption) rfl | omega | (simp only [List.length_take, List.length_drop, List.length_append, List.length_cons, List.length_nil]; omega)); (case zqhn2 => first | with_reducible assumption | exact Nat.le_trans (by with_reducible assumption) (Nat.le_of_ble_eq_true rfl) | exact le_max3 (by with_reducible assumption) (by with_reducible assumption) (by with_reducible assumption) (by with_reducible assumption) rfl | omega | (simp only [List.length_take, List.length_drop, List.length_append, List.length_cons, List.length_nil]; omega)); (case zqhn3 => first | with_reducible assumption | exact Nat.le_trans (by with_reducible assumption) (Nat.le_of_ble_eq_true rfl) | exact le_max3 (by with_reducible assumption) (by with_reducible assumption) (by with_reducible assumption) (by with_reducible assumption) rfl | omega | (simp only [List.length_take, List.length_drop, List.length_append, List.length_cons, List.length_nil]; omega)); (case zqs0 => first | with_reducible assumption | omega | (simp only [List.length_take, List.length_drop, List.length_append, List.length_cons, List.length_nil]; omega)); (case zqs1 => first | with_reducible assumption | omega | (simp only [List.length_take, List.length_drop, List.length_append, List.length_cons, List.length_nil]; omega)); (case zqw0 => first | with_reducible assumption | omega | (simp only [List.length_take, List.length_drop, List.length_append, List.length_cons, List.length_nil]; omega)); (case zqw1 => first | with_reducible assumption | omega | (simp only [List.length_take, List.length_drop, List.length_append, List.length_cons, List.length_nil]; omega)); (case zqr1 => with_reducible assumption); (case zqr2 => with_reducible assumption); (case zqr3 => with_reducible assumption)); intro _ _ _ _ _ _ _ _ _ _ zhP; have _ := zhP.1; have _ := zhP.2.1; have _ := zhP.2.2; clear zhP; clear kFq kNq) | (refine goOn ?_; k_here; (with_reducible show wpAny _ _ (PySem.call (Value.ref 109) _) _ _ _); (with_reducible rename Fr _ _ _ _ => kFq); (with_reducible rename News _ _ _ _ => kNq); k_dflt (refine' useList (c_middle_of ⟨?zqgx, ?zqgt⟩ kFq.keep ?zqhl ?zqhl2 ?zqhl3 ?zqhi ?zqhi2 ?zqhi3 ?zqhn ?zqhn2 ?zqhn3 ?zqw0 ?zqw1 ?zqr1 ?zqr2 ?zqr3 ?zqge) kFq kNq rfl (by first | exact Nat.le_of_ble_eq_true rfl | (dsimp only [Ar]; omega)) (by first | exact Nat.le_of_ble_eq_true rfl | (dsimp only [Ar]; omega)) ?_; (case zqgx => with_reducible assumption); (case zqgt => with_reducible assumption); (case zqhl => first | exact Fr.lst kFq (by with_reducible assumption) | exact News.isList kNq (by k_mem)); (case zqhl2 => first | exact Fr.lst kFq (by with_reducible assumption) | exact News.isList kNq (by k_mem)); (case zqhl3 => first | exact Fr.lst kFq (by with_reducible assumption) | exact News.isList kNq (by k_mem)); (case zqhi => with_reducible assumption); (case zqhi2 => with_reducible assumption); (case zqhi3 => with_reducible assumption); (case zqhn => first | with_reducible assumption | exact Nat.le_trans (by with_reducible assumption) (Nat.le_of_ble_eq_true rfl) | omega | (simp only [List.length_take, List.length_drop, List.length_append, List.length_cons, List.length_nil]; omega)); (case zqhn2 => first | with_reducible assumption | exact Nat.le_trans (by with_reducible assumption) (Nat.le_of_ble_eq_true rfl) | omega | (simp only [List.length_take, List.length_drop, List.length_append, List.length_cons, List.length_nil]; omega)); (case zqhn3 => first | with_reducible assumption | exact Nat.le_trans (by with_reducible assumption) (Nat.le_of_ble_eq_true rfl) | omega | (simp only [List.length_take, List.length_drop, List.length_append, List.length_cons, List.length_nil]; omega)); (case zqw0 => first | with_reducible assumption | omega | (simp only [List.length_take, List.length_drop, List.length_append, List.length_cons, List.length_nil]; omega)); (case zqw1 => first | with_reducible assumption | omega | (simp only [List.length_take, List.length_drop, List.length_append, List.length_cons, List.length_nil]; omega)); (case zqr1 => with_reducible assumption); (case zqr2 => with_reducible assumption); (case zqr3 => with_reducible assumption); (case zqge => first | with_reducible assumption | (intro _; omega) | (intro hb0; cases hb0))); intro _ _ _ _ _ _ _ _ _ _ zhP; have _ := zhP.1; have _ := zhP.2.1; have _ := zhP.2.2; clear zhP; clear kFq kNq) | (refine goOn ?_; k_dflt (refine' kmk_slice_ints ?zqF ?zqN ?zql ?zqp ?zqq ?zqi ?zqm rfl ?_ ?zqs ?zqt ?zqz; (case zqF => k_asm); (case zqN => k_asm); (case zql => first | exact Fr.lst (by assumption) (by assumption) | exact News.isList (by assumption) (by k_mem)); (case zqp => kmk_part); (case zqq => kmk_part); (case zqi => assumption); (case zqm => first | exact kmk_all (by assumption) | exact kmk_from (by assumption) (by first | assumption | omega) | exact kmk_upto (by assumption) (by first | assumption | omega) | exact kmk_run (by assumption) (by first | assumption | omega) (by first | assumption | omega)); (case zqs => with_unfolding_all rfl); (case zqt => kmk_pure); (case zqz => exact sz_ok (by assumption) (by omega))); intro _ _ _ _ _ zl1 _ zhC zhL; (try k_lt zl1); (try k_sweep); clear zhC zhL) | (refine goOn ?_; with_reducible rename Fr _ _ _ _ => kFq; with_reducible rename News _ _ _ _ => kNq; k_dflt (refine' appD kFq kNq ?zqo ?zqz ?_; (case zqo => first | exact offOne (by assumption) | exact offNil | assumption); (case zqz => first | assumption | omega)); intro _ _ _; clear kFq kNq) | fail); (try k_steps))
    unfold Stop
    rename Fr _ _ _ _ => kF
    rename News _ _ _ _ => kN
    rename _ ∧ _ ∧ _ => lT
    rename_i T h6 F6o N6o h7
    clear F6o N6o
    have hTL := allLt_mem lT.2.2.2.2.2.2.2
    refine' useClo (c_law_square (c0 := c0) (o0 := o0) (hx := hx) (T := T) ⟨?gx, ?gt⟩ kF.keep (kN (156, _) (.tail _ (.head _))).1 (kN (156, tabObj ps) (.tail _ (.head _))).2.2 hsp (fun q hq => ⟨⟨(kN q (.tail _ (.tail _ (.tail _ (.tail _ (.tail _ (.tail _ (.tail _ (.tail _ (hhx q hq)))))))))).1, (kN q (.tail _ (.tail _ (.tail _ (.tail _ (.tail _ (.tail _ (.tail _ (.tail _ (hhx q hq)))))))))).2.2⟩, hJ.off q hq⟩) (kN (T, _) (.head _)).1 (kN (T, listOf #[] 0) (.head _)).2.2 hw0 hw1) kF kN ?U (hsp.imp_right fun h => ⟨o0, (.tail _ (.tail _ (.tail _ (.tail _ (.tail _ (.tail _ (.tail _ (.tail _ (hhx _ h.2.1)))))))))⟩) rfl (by first | exact Nat.le_of_ble_eq_true rfl | (dsimp only [Ar]; omega)) (by first | exact Nat.le_of_ble_eq_true rfl | (dsimp only [Ar]; omega)) ?_
    case gx => with_reducible assumption
    case gt => with_reducible assumption
    case U => exact UpdF.tail (Nat.ne_of_gt lT.1) (UpdF.head (List.forall_mem_cons.mpr ⟨by k_ne, (List.forall_mem_cons.mpr ⟨by k_ne, (List.forall_mem_cons.mpr ⟨by k_ne, (List.forall_mem_cons.mpr ⟨by k_ne, (List.forall_mem_cons.mpr ⟨by k_ne, (List.forall_mem_cons.mpr ⟨by k_ne, htab⟩)⟩)⟩)⟩)⟩)⟩))
    intro f fo c' oc cw ow ct ot h8 tk8 kF kN nf nw nt hcc hfo hq hok
    try dsimp only at kN
    k_steps
    repeat' ((first | (refine goOn ?_; k_here; (with_reducible show wpAny _ _ (PySem.call (Value.ref 135) _) _ _ _); (with_reducible rename Fr _ _ _ _ => kFq); (with_reducible rename News _ _ _ _ => kNq); k_dflt (refine' usePool (c_law_pool ⟨?zqgx, ?zqgt⟩ kFq.keep ?zqhl ?zqhi ?zqhn) kFq kNq rfl (by first | exact Nat.le_of_ble_eq_true rfl | (dsimp only [Ar]; omega)) (by first | exact Nat.le_of_ble_eq_true rfl | (dsimp only [Ar]; omega)) ?_; (case zqgx => with_reducible assumption); (case zqgt => with_reducible assumption); (case zqhl => first | exact Fr.lst kFq (by assumption) | exact News.isList kNq (by k_mem)); (case zqhi => with_reducible assumption); (case zqhn => first | with_reducible assumption | exact Nat.le_trans (by with_reducible assumption) (Nat.le_of_ble_eq_true rfl) | omega)); intro _ _ _ _ _ _ _ _ _ _ _ _ _ _ _ _; clear kFq kNq) | (refine goOn ?_; k_here; (with_reducible show wpAny _ _ (PySem.call (Value.ref 130) _) _ _ _); (with_reducible rename Fr _ _ _ _ => kFq); (with_reducible rename News _ _ _ _ => kNq); k_dflt (refine' useDraw (c_law_draw ⟨?zqgx, ?zqgt⟩ kFq.keep ?zqhP ?zqhO ?zqhJP ?zqhJ ?zqhi ?zqhn ?zqhPb ?zqhm) kFq kNq ?zqU rfl (by first | exact Nat.le_of_ble_eq_true rfl | (dsimp only [Ar]; omega)) (by first | exact Nat.le_of_ble_eq_true rfl | (dsimp only [Ar]; omega)) ?_; (case zqgx => with_reducible assumption); (case zqgt => with_reducible assumption); (case zqhP => exact (kNq (_, _) (by k_mem)).1); (case zqhPb => exact (kNq (_, _) (by k_mem)).2.2); (case zqhO => with_reducible assumption); (case zqhJP => with_reducible assumption); (case zqhJ => first | exact Fr.lst kFq (by assumption) | exact News.isList kNq (by k_mem)); (case zqhi => with_reducible assumption); (case zqhn => first | with_reducible assumption | exact Nat.le_trans (by with_reducible assumption) (Nat.le_of_ble_eq_true rfl) | omega); (case zqhm => first | with_reducible assumption | omega); (case zqU => k_updF)); intro _ _ _ _ _ _ kNn; (try dsimp only [List.append] at kNn); revert kNn; intro _ _ _ _; clear kFq kNq) | (refine goOn ?_; k_here; (with_reducible show wpAny _ _ (PySem.call (Value.ref 154) _) _ _ _); (with_reducible rename Fr _ _ _ _ => kFq); (with_reducible rename News _ _ _ _ => kNq); k_dflt (refine' useDraw (c_law_number ⟨?zqgx, ?zqgt⟩ kFq.keep ?zqhP ?zqhO ?zqhJP ?zqhJ ?zqhi ?zqhn ?zqhPb ?zqw0 ?zqw1 ?zqm0 ?zqm1) kFq kNq ?zqU rfl (by first | exact Nat.le_of_ble_eq_true rfl | (dsimp only [Ar]; omega)) (by first | exact Nat.le_of_ble_eq_true rfl | (dsimp only [Ar]; omega)) ?_; (case zqgx => with_reducible assumption); (case zqgt => with_reducible assumption); (case zqhP => exact (kNq (_, _) (by k_mem)).1); (case zqhPb => exact (kNq (_, _) (by k_mem)).2.2); (case zqhO => with_reducible assumption); (case zqhJP => with_reducible assumption); (case zqhJ => first | exact Fr.lst kFq (by assumption) | exact News.isList kNq (by k_mem)); (case zqhi => with_reducible assumption); (case zqhn => first | with_reducible assumption | exact Nat.le_trans (by with_reducible assumption) (Nat.le_of_ble_eq_true rfl) | omega); (case zqw0 => first | with_reducible assumption | omega); (case zqw1 => first | with_reducible assumption | omega); (case zqm0 => first | with_reducible assumption | omega); (case zqm1 => first | with_reducible assumption | omega); (case zqU => k_updF)); intro _ _ _ _ _ _ kNn; (try dsimp only [List.append] at kNn); revert kNn; intro _ _ _ _; clear kFq kNq) | (refine goOn ?_; k_here; (with_reducible show wpAny _ _ (PySem.call (Value.ref 142) _) _ _ _); (with_reducible rename Fr _ _ _ _ => kFq); (with_reducible rename News _ _ _ _ => kNq); k_dflt (refine' useList (c_law_row ⟨?zqgx, ?zqgt⟩ kFq.keep ?zqw0 ?zqw1 ?zqn0 ?zqn1) kFq kNq rfl (by first | exact Nat.le_of_ble_eq_true rfl | (dsimp only [Ar]; omega)) (by first | exact Nat.le_of_ble_eq_true rfl | (dsimp only [Ar]; omega)) ?_; (case zqgx => with_reducible assumption); (case zqgt => with_reducible assumption); (case zqw0 => first | with_reducible assumption | omega); (case zqw1 => first | with_reducible assumption | omega); (case zqn0 => first | with_reducible assumption | omega); (case zqn1 => first | with_reducible assumption | omega)); intro _ _ _ _ _ _ _ _ _ _ zhP; have _ := zhP.1; have _ := zhP.2; clear zhP; clear kFq kNq) | (refine goOn ?_; k_here; (with_reducible show wpAny _ _ (PySem.call (Value.ref 102) _) _ _ _); (with_reducible rename Fr _ _ _ _ => kFq); (with_reducible rename News _ _ _ _ => kNq); k_dflt (refine' useList (c_put_together ⟨?zqgx, ?zqgt⟩ kFq.keep ?zqhl ?zqhl2 ?zqhl3 ?zqhi ?zqhi2 ?zqhi3 ?zqhn ?zqhn2 ?zqhn3 ?zqs0 ?zqs1 ?zqw0 ?zqw1 ?zqr1 ?zqr2 ?zqr3) kFq kNq rfl (by first | exact Nat.le_of_ble_eq_true rfl | (dsimp only [Ar]; omega)) (by first | exact Nat.le_of_ble_eq_true rfl | (dsimp only [Ar]; omega)) ?_; (case zqgx => with_reducible assumption); (case zqgt => with_reducible assumption); (case zqhl => first | exact Fr.lst kFq (by with_reducible assumption) | exact News.isList kNq (by k_mem)); (case zqhl2 => first | exact Fr.lst kFq (by with_reducible assumption) | exact News.isList kNq (by k_mem)); (case zqhl3 => first | exact Fr.lst kFq (by with_reducible assumption) | exact News.isList kNq (by k_mem)); (case zqhi => with_reducible assumption); (case zqhi2 => with_reducible assumption); (case zqhi3 => with_reducible assumption); (case zqhn => first | with_reducible assumption | exact Nat.le_trans (by with_reducible assumption) (Nat.le_of_ble_eq_true rfl) | exact le_max3 (by with_reducible assumption) (by with_reducible assumption) (by with_reducible assumption) (by with_reducible assumption) rfl | omega | (simp only [List.length_take, List.length_drop, List.length_append, List.length_cons, List.length_nil]; omega)); (case zqhn2 => first | with_reducible assumption | exact Nat.le_trans (by with_reducible assumption) (Nat.le_of_ble_eq_true rfl) | exact le_max3 (by with_reducible assumption) (by with_reducible assumption) (by with_reducible assumption) (by with_reducible assumption) rfl | omega | (simp only [List.length_take, List.length_drop, List.length_append, List.length_cons, List.length_nil]; omega)); (case zqhn3 => first | with_reducible assumption | exact Nat.le_trans (by with_reducible assumption) (Nat.le_of_ble_eq_true rfl) | exact le_max3 (by with_reducible assumption) (by with_reducible assumption) (by with_reducible assumption) (by with_reducible assumption) rfl | omega | (simp only [List.length_take, List.length_drop, List.length_append, List.length_cons, List.length_nil]; omega)); (case zqs0 => first | with_reducible assumption | omega | (simp only [List.length_take, List.length_drop, List.length_append, List.length_cons, List.length_nil]; omega)); (case zqs1 => first | with_reducible assumption | omega | (simp only [List.length_take, List.length_drop, List.length_append, List.length_cons, List.length_nil]; omega)); (case zqw0 => first | with_reducible assumption | omega | (simp only [List.length_take, List.length_drop, List.length_append, List.length_cons, List.length_nil]; omega)); (case zqw1 => first | with_reducible assumption | omega | (simp only [List.length_take, List.length_drop, List.length_append, List.length_cons, List.length_nil]; omega)); (case zqr1 => with_reducible assumption); (case zqr2 => with_reducible assumption); (case zqr3 => with_reducible assumption)); intro _ _ _ _ _ _ _ _ _ _ zhP; have _ := zhP.1; have _ := zhP.2.1; have _ := zhP.2.2; clear zhP; clear kFq kNq) | (refine goOn ?_; k_here; (with_reducible show wpAny _ _ (PySem.call (Value.ref 109) _) _ _ _); (with_reducible rename Fr _ _ _ _ => kFq); (with_reducible rename News _ _ _ _ => kNq); k_dflt (refine' useList (c_middle_of ⟨?zqgx, ?zqgt⟩ kFq.keep ?zqhl ?zqhl2 ?zqhl3 ?zqhi ?zqhi2 ?zqhi3 ?zqhn ?zqhn2 ?zqhn3 ?zqw0 ?zqw1 ?zqr1 ?zqr2 ?zqr3 ?zqge) kFq kNq rfl (by first | exact Nat.le_of_ble_eq_true rfl | (dsimp only [Ar]; omega)) (by first | exact Nat.le_of_ble_eq_true rfl | (dsimp only [Ar]; omega)) ?_; (case zqgx => with_reducible assumption); (case zqgt => with_reducible assumption); (case zqhl => first | exact Fr.lst kFq (by with_reducible assumption) | exact News.isList kNq (by k_mem)); (case zqhl2 => first | exact Fr.lst kFq (by with_reducible assumption) | exact News.isList kNq (by k_mem)); (case zqhl3 => first | exact Fr.lst kFq (by with_reducible assumption) | exact News.isList kNq (by k_mem)); (case zqhi => with_reducible assumption); (case zqhi2 => with_reducible assumption); (case zqhi3 => with_reducible assumption); (case zqhn => first | with_reducible assumption | exact Nat.le_trans (by with_reducible assumption) (Nat.le_of_ble_eq_true rfl) | omega | (simp only [List.length_take, List.length_drop, List.length_append, List.length_cons, List.length_nil]; omega)); (case zqhn2 => first | with_reducible assumption | exact Nat.le_trans (by with_reducible assumption) (Nat.le_of_ble_eq_true rfl) | omega | (simp only [List.length_take, List.length_drop, List.length_append, List.length_cons, List.length_nil]; omega)); (case zqhn3 => first | with_reducible assumption | exact Nat.le_trans (by with_reducible assumption) (Nat.le_of_ble_eq_true rfl) | omega | (simp only [List.length_take, List.length_drop, List.length_append, List.length_cons, List.length_nil]; omega)); (case zqw0 => first | with_reducible assumption | omega | (simp only [List.length_take, List.length_drop, List.length_append, List.length_cons, List.length_nil]; omega)); (case zqw1 => first | with_reducible assumption | omega | (simp only [List.length_take, List.length_drop, List.length_append, List.length_cons, List.length_nil]; omega)); (case zqr1 => with_reducible assumption); (case zqr2 => with_reducible assumption); (case zqr3 => with_reducible assumption); (case zqge => first | with_reducible assumption | (intro _; omega) | (intro hb0; cases hb0))); intro _ _ _ _ _ _ _ _ _ _ zhP; have _ := zhP.1; have _ := zhP.2.1; have _ := zhP.2.2; clear zhP; clear kFq kNq) | (refine goOn ?_; k_dflt (refine' kmk_slice_ints ?zqF ?zqN ?zql ?zqp ?zqq ?zqi ?zqm rfl ?_ ?zqs ?zqt ?zqz; (case zqF => k_asm); (case zqN => k_asm); (case zql => first | exact Fr.lst (by assumption) (by assumption) | exact News.isList (by assumption) (by k_mem)); (case zqp => kmk_part); (case zqq => kmk_part); (case zqi => assumption); (case zqm => first | exact kmk_all (by assumption) | exact kmk_from (by assumption) (by first | assumption | omega) | exact kmk_upto (by assumption) (by first | assumption | omega) | exact kmk_run (by assumption) (by first | assumption | omega) (by first | assumption | omega)); (case zqs => with_unfolding_all rfl); (case zqt => kmk_pure); (case zqz => exact sz_ok (by assumption) (by omega))); intro _ _ _ _ _ zl1 _ zhC zhL; (try k_lt zl1); (try k_sweep); clear zhC zhL) | (refine goOn ?_; with_reducible rename Fr _ _ _ _ => kFq; with_reducible rename News _ _ _ _ => kNq; k_dflt (refine' appD kFq kNq ?zqo ?zqz ?_; (case zqo => first | exact offOne (by assumption) | exact offNil | assumption); (case zqz => first | assumption | omega)); intro _ _ _; clear kFq kNq) | fail); (try k_steps))
    unfold Stop
    rename Fr _ _ _ _ => kF
    rename News _ _ _ _ => kN
    have hKT : ∀ q ∈ [(f, fo), (c', oc), (cw, ow), (ct, ot)], q.1 ≠ T := by
      refine List.forall_mem_cons.mpr ⟨(nf.ne (.head _)).symm, List.forall_mem_cons.mpr ⟨?_, List.forall_mem_cons.mpr ⟨(nw.ne (.head _)).symm, List.forall_mem_cons.mpr ⟨(nt.ne (.head _)).symm, List.forall_mem_nil _⟩⟩⟩⟩
      rcases hcc with ⟨_, hcc⟩ | ⟨hne, hcc⟩
      · exact (hcc.ne (.head _)).symm
      · rcases hsp with hsp | hsp
        · exact absurd hsp hne
        · exact fun e => Nat.ne_of_lt (hTL _ (hhx _ hsp.2.1)) (hcc.symm.trans e)
    have hSK := sk_all (lv := lv) ⟨by with_reducible assumption, by with_reducible assumption⟩ (kN (T, _) (.tail _ (.tail _ (.tail _ (.tail _ (.head _)))))).2.2 hok hKT (.head _) hfo hw0 hw1 hlv0 (by omega)
    have hTr : ∀ q ∈ (156, tabObj #[rawInt (103 : Nat), rawInt (4 : Nat), .ref c']) :: (Da, listOf (List.toArray usa) ca) :: (Db, listOf (List.toArray usb) cb) :: (P, o4) :: (J, listOf (List.toArray us) cJ) :: (s1.heap.objs.size + 1, ob) :: (163, tabObj #[]) :: tl, q.1 ≠ T := (List.forall_mem_cons.mpr ⟨by k_ne, (List.forall_mem_cons.mpr ⟨by k_ne, (List.forall_mem_cons.mpr ⟨by k_ne, (List.forall_mem_cons.mpr ⟨by k_ne, (List.forall_mem_cons.mpr ⟨by k_ne, (List.forall_mem_cons.mpr ⟨by k_ne, (List.forall_mem_cons.mpr ⟨by k_ne, (fun q hq => Nat.ne_of_lt (hTL q hq))⟩)⟩)⟩)⟩)⟩)⟩)⟩)
    refine useSK hSK kF.keep kF kN hKT hTr (.tail _ (.head _)) hIa (by omega) hRa rfl (by first | exact Nat.le_of_ble_eq_true rfl | (dsimp only [Ar]; omega)) (by first | exact Nat.le_of_ble_eq_true rfl | (dsimp only [Ar]; omega)) ?_
    clear kF kN
    intro D us7 c7 ms7 os e7 more h9 tk9 kF kN neD hI7 hR7 hV7 hT7 m1 m2 m3
    try dsimp only at kN
    k_steps
    repeat' ((first | (refine goOn ?_; k_here; (with_reducible show wpAny _ _ (PySem.call (Value.ref 135) _) _ _ _); (with_reducible rename Fr _ _ _ _ => kFq); (with_reducible rename News _ _ _ _ => kNq); k_dflt (refine' usePool (c_law_pool ⟨?zqgx, ?zqgt⟩ kFq.keep ?zqhl ?zqhi ?zqhn) kFq kNq rfl (by first | exact Nat.le_of_ble_eq_true rfl | (dsimp only [Ar]; omega)) (by first | exact Nat.le_of_ble_eq_true rfl | (dsimp only [Ar]; omega)) ?_; (case zqgx => with_reducible assumption); (case zqgt => with_reducible assumption); (case zqhl => first | exact Fr.lst kFq (by assumption) | exact News.isList kNq (by k_mem)); (case zqhi => with_reducible assumption); (case zqhn => first | with_reducible assumption | exact Nat.le_trans (by with_reducible assumption) (Nat.le_of_ble_eq_true rfl) | omega)); intro _ _ _ _ _ _ _ _ _ _ _ _ _ _ _ _; clear kFq kNq) | (refine goOn ?_; k_here; (with_reducible show wpAny _ _ (PySem.call (Value.ref 130) _) _ _ _); (with_reducible rename Fr _ _ _ _ => kFq); (with_reducible rename News _ _ _ _ => kNq); k_dflt (refine' useDraw (c_law_draw ⟨?zqgx, ?zqgt⟩ kFq.keep ?zqhP ?zqhO ?zqhJP ?zqhJ ?zqhi ?zqhn ?zqhPb ?zqhm) kFq kNq ?zqU rfl (by first | exact Nat.le_of_ble_eq_true rfl | (dsimp only [Ar]; omega)) (by first | exact Nat.le_of_ble_eq_true rfl | (dsimp only [Ar]; omega)) ?_; (case zqgx => with_reducible assumption); (case zqgt => with_reducible assumption); (case zqhP => exact (kNq (_, _) (by k_mem)).1); (case zqhPb => exact (kNq (_, _) (by k_mem)).2.2); (case zqhO => with_reducible assumption); (case zqhJP => with_reducible assumption); (case zqhJ => first | exact Fr.lst kFq (by assumption) | exact News.isList kNq (by k_mem)); (case zqhi => with_reducible assumption); (case zqhn => first | with_reducible assumption | exact Nat.le_trans (by with_reducible assumption) (Nat.le_of_ble_eq_true rfl) | omega); (case zqhm => first | with_reducible assumption | omega); (case zqU => k_updF)); intro _ _ _ _ _ _ kNn; (try dsimp only [List.append] at kNn); revert kNn; intro _ _ _ _; clear kFq kNq) | (refine goOn ?_; k_here; (with_reducible show wpAny _ _ (PySem.call (Value.ref 154) _) _ _ _); (with_reducible rename Fr _ _ _ _ => kFq); (with_reducible rename News _ _ _ _ => kNq); k_dflt (refine' useDraw (c_law_number ⟨?zqgx, ?zqgt⟩ kFq.keep ?zqhP ?zqhO ?zqhJP ?zqhJ ?zqhi ?zqhn ?zqhPb ?zqw0 ?zqw1 ?zqm0 ?zqm1) kFq kNq ?zqU rfl (by first | exact Nat.le_of_ble_eq_true rfl | (dsimp only [Ar]; omega)) (by first | exact Nat.le_of_ble_eq_true rfl | (dsimp only [Ar]; omega)) ?_; (case zqgx => with_reducible assumption); (case zqgt => with_reducible assumption); (case zqhP => exact (kNq (_, _) (by k_mem)).1); (case zqhPb => exact (kNq (_, _) (by k_mem)).2.2); (case zqhO => with_reducible assumption); (case zqhJP => with_reducible assumption); (case zqhJ => first | exact Fr.lst kFq (by assumption) | exact News.isList kNq (by k_mem)); (case zqhi => with_reducible assumption); (case zqhn => first | with_reducible assumption | exact Nat.le_trans (by with_reducible assumption) (Nat.le_of_ble_eq_true rfl) | omega); (case zqw0 => first | with_reducible assumption | omega); (case zqw1 => first | with_reducible assumption | omega); (case zqm0 => first | with_reducible assumption | omega); (case zqm1 => first | with_reducible assumption | omega); (case zqU => k_updF)); intro _ _ _ _ _ _ kNn; (try dsimp only [List.append] at kNn); revert kNn; intro _ _ _ _; clear kFq kNq) | (refine goOn ?_; k_here; (with_reducible show wpAny _ _ (PySem.call (Value.ref 142) _) _ _ _); (with_reducible rename Fr _ _ _ _ => kFq); (with_reducible rename News _ _ _ _ => kNq); k_dflt (refine' useList (c_law_row ⟨?zqgx, ?zqgt⟩ kFq.keep ?zqw0 ?zqw1 ?zqn0 ?zqn1) kFq kNq rfl (by first | exact Nat.le_of_ble_eq_true rfl | (dsimp only [Ar]; omega)) (by first | exact Nat.le_of_ble_eq_true rfl | (dsimp only [Ar]; omega)) ?_; (case zqgx => with_reducible assumption); (case zqgt => with_reducible assumption); (case zqw0 => first | with_reducible assumption | omega); (case zqw1 => first | with_reducible assumption | omega); (case zqn0 => first | with_reducible assumption | omega); (case zqn1 => first | with_reducible assumption | omega)); intro _ _ _ _ _ _ _ _ _ _ zhP; have _ := zhP.1; have _ := zhP.2; clear zhP; clear kFq kNq) | (refine goOn ?_; k_here; (with_reducible show wpAny _ _ (PySem.call (Value.ref 102) _) _ _ _); (with_reducible rename Fr _ _ _ _ => kFq); (with_reducible rename News _ _ _ _ => kNq); k_dflt (refine' useList (c_put_together ⟨?zqgx, ?zqgt⟩ kFq.keep ?zqhl ?zqhl2 ?zqhl3 ?zqhi ?zqhi2 ?zqhi3 ?zqhn ?zqhn2 ?zqhn3 ?zqs0 ?zqs1 ?zqw0 ?zqw1 ?zqr1 ?zqr2 ?zqr3) kFq kNq rfl (by first | exact Nat.le_of_ble_eq_true rfl | (dsimp only [Ar]; omega)) (by first | exact Nat.le_of_ble_eq_true rfl | (dsimp only [Ar]; omega)) ?_; (case zqgx => with_reducible assumption); (case zqgt => with_reducible assumption); (case zqhl => first | exact Fr.lst kFq (by with_reducible assumption) | exact News.isList kNq (by k_mem)); (case zqhl2 => first | exact Fr.lst kFq (by with_reducible assumption) | exact News.isList kNq (by k_mem)); (case zqhl3 => first | exact Fr.lst kFq (by with_reducible assumption) | exact News.isList kNq (by k_mem)); (case zqhi => with_reducible assumption); (case zqhi2 => with_reducible assumption); (case zqhi3 => with_reducible assumption); (case zqhn => first | with_reducible assumption | exact Nat.le_trans (by with_reducible assumption) (Nat.le_of_ble_eq_true rfl) | exact le_max3 (by with_reducible assumption) (by with_reducible assumption) (by with_reducible assumption) (by with_reducible assumption) rfl | omega | (simp only [List.length_take, List.length_drop, List.length_append, List.length_cons, List.length_nil]; omega)); (case zqhn2 => first | with_reducible assumption | exact Nat.le_trans (by with_reducible assumption) (Nat.le_of_ble_eq_true rfl) | exact le_max3 (by with_reducible assumption) (by with_reducible assumption) (by with_reducible assumption) (by with_reducible assumption) rfl | omega | (simp only [List.length_take, List.length_drop, List.length_append, List.length_cons, List.length_nil]; omega)); (case zqhn3 => first | with_reducible assumption | exact Nat.le_trans (by with_reducible assumption) (Nat.le_of_ble_eq_true rfl) | exact le_max3 (by with_reducible assumption) (by with_reducible assumption) (by with_reducible assumption) (by with_reducible assumption) rfl | omega | (simp only [List.length_take, List.length_drop, List.length_append, List.length_cons, List.length_nil]; omega)); (case zqs0 => first | with_reducible assumption | omega | (simp only [List.length_take, List.length_drop, List.length_append, List.length_cons, List.length_nil]; omega)); (case zqs1 => first | with_reducible assumption | omega | (simp only [List.length_take, List.length_drop, List.length_append, List.length_cons, List.length_nil]; omega)); (case zqw0 => first | with_reducible assumption | omega | (simp only [List.length_take, List.length_drop, List.length_append, List.length_cons, List.length_nil]; omega)); (case zqw1 => first | with_reducible assumption | omega | (simp only [List.length_take, List.length_drop, List.length_append, List.length_cons, List.length_nil]; omega)); (case zqr1 => with_reducible assumption); (case zqr2 => with_reducible assumption); (case zqr3 => with_reducible assumption)); intro _ _ _ _ _ _ _ _ _ _ zhP; have _ := zhP.1; have _ := zhP.2.1; have _ := zhP.2.2; clear zhP; clear kFq kNq) | (refine goOn ?_; k_here; (with_reducible show wpAny _ _ (PySem.call (Value.ref 109) _) _ _ _); (with_reducible rename Fr _ _ _ _ => kFq); (with_reducible rename News _ _ _ _ => kNq); k_dflt (refine' useList (c_middle_of ⟨?zqgx, ?zqgt⟩ kFq.keep ?zqhl ?zqhl2 ?zqhl3 ?zqhi ?zqhi2 ?zqhi3 ?zqhn ?zqhn2 ?zqhn3 ?zqw0 ?zqw1 ?zqr1 ?zqr2 ?zqr3 ?zqge) kFq kNq rfl (by first | exact Nat.le_of_ble_eq_true rfl | (dsimp only [Ar]; omega)) (by first | exact Nat.le_of_ble_eq_true rfl | (dsimp only [Ar]; omega)) ?_; (case zqgx => with_reducible assumption); (case zqgt => with_reducible assumption); (case zqhl => first | exact Fr.lst kFq (by with_reducible assumption) | exact News.isList kNq (by k_mem)); (case zqhl2 => first | exact Fr.lst kFq (by with_reducible assumption) | exact News.isList kNq (by k_mem)); (case zqhl3 => first | exact Fr.lst kFq (by with_reducible assumption) | exact News.isList kNq (by k_mem)); (case zqhi => with_reducible assumption); (case zqhi2 => with_reducible assumption); (case zqhi3 => with_reducible assumption); (case zqhn => first | with_reducible assumption | exact Nat.le_trans (by with_reducible assumption) (Nat.le_of_ble_eq_true rfl) | omega | (simp only [List.length_take, List.length_drop, List.length_append, List.length_cons, List.length_nil]; omega)); (case zqhn2 => first | with_reducible assumption | exact Nat.le_trans (by with_reducible assumption) (Nat.le_of_ble_eq_true rfl) | omega | (simp only [List.length_take, List.length_drop, List.length_append, List.length_cons, List.length_nil]; omega)); (case zqhn3 => first | with_reducible assumption | exact Nat.le_trans (by with_reducible assumption) (Nat.le_of_ble_eq_true rfl) | omega | (simp only [List.length_take, List.length_drop, List.length_append, List.length_cons, List.length_nil]; omega)); (case zqw0 => first | with_reducible assumption | omega | (simp only [List.length_take, List.length_drop, List.length_append, List.length_cons, List.length_nil]; omega)); (case zqw1 => first | with_reducible assumption | omega | (simp only [List.length_take, List.length_drop, List.length_append, List.length_cons, List.length_nil]; omega)); (case zqr1 => with_reducible assumption); (case zqr2 => with_reducible assumption); (case zqr3 => with_reducible assumption); (case zqge => first | with_reducible assumption | (intro _; omega) | (intro hb0; cases hb0))); intro _ _ _ _ _ _ _ _ _ _ zhP; have _ := zhP.1; have _ := zhP.2.1; have _ := zhP.2.2; clear zhP; clear kFq kNq) | (refine goOn ?_; k_dflt (refine' kmk_slice_ints ?zqF ?zqN ?zql ?zqp ?zqq ?zqi ?zqm rfl ?_ ?zqs ?zqt ?zqz; (case zqF => k_asm); (case zqN => k_asm); (case zql => first | exact Fr.lst (by assumption) (by assumption) | exact News.isList (by assumption) (by k_mem)); (case zqp => kmk_part); (case zqq => kmk_part); (case zqi => assumption); (case zqm => first | exact kmk_all (by assumption) | exact kmk_from (by assumption) (by first | assumption | omega) | exact kmk_upto (by assumption) (by first | assumption | omega) | exact kmk_run (by assumption) (by first | assumption | omega) (by first | assumption | omega)); (case zqs => with_unfolding_all rfl); (case zqt => kmk_pure); (case zqz => exact sz_ok (by assumption) (by omega))); intro _ _ _ _ _ zl1 _ zhC zhL; (try k_lt zl1); (try k_sweep); clear zhC zhL) | (refine goOn ?_; with_reducible rename Fr _ _ _ _ => kFq; with_reducible rename News _ _ _ _ => kNq; k_dflt (refine' appD kFq kNq ?zqo ?zqz ?_; (case zqo => first | exact offOne (by assumption) | exact offNil | assumption); (case zqz => first | assumption | omega)); intro _ _ _; clear kFq kNq) | fail); (try k_steps))
    · rename decide _ = true => hc
      exact absurd (of_decide_eq_true hc) (fun e => by rw [e] at m1; exact absurd m1 (by decide))
    · rename _ < (0 : Int) => hc
      rename _ ∈ more => hm
      have := (m3 _ hm).1
      omega
    · rename ite _ _ _ ≤ _ => hc
      rename _ ∈ more => hm
      have := (m3 _ hm).2
      split at hc <;> omega
    · show TPEnd _ _ _ _ _ _ _ _ _ _ _ _
      rename Fr _ _ _ _ => kF
      rename News _ _ _ _ => kN
      have hc156 : c' ≠ 156 := by
        rcases hcc with ⟨_, hcc⟩ | ⟨hne, hcc⟩
        · exact (hcc.ne (.tail _ (.head _))).symm
        · rcases hsp with hsp | hsp
          · exact absurd hsp hne
          · rw [hcc]; exact hJ.off _ hsp.2.1
      have hcI : c' ≠ I := by
        rcases hcc with ⟨_, hcc⟩ | ⟨hne, hcc⟩
        · exact (hcc.ne (.tail _ (.tail _ (.tail _ (.tail _ (.tail _ (.tail _ (.tail _ (.tail _ hI))))))))).symm
        · rcases hsp with hsp | hsp
          · exact absurd hsp hne
          · rw [hcc]; exact hxI _ hsp.2.1
      refine ⟨_, _, _, _, #[rawInt (103 : Nat), rawInt (4 : Nat), .ref c'], [(c', oc)], rfl, kF, kN, (by k_mem), ?_, fun q hq => (.tail _ (.tail _ (.tail _ (.tail _ (.tail _ (.tail _ (.tail _ (.tail _ (.tail _ (.tail _ (.tail _ (.tail _ (hown q hq))))))))))))), ?_, ?_, fun z h1 h2 => ?_, .inr ⟨c', oc, rfl, rfl, hc156, hq⟩⟩
      · exact List.forall_mem_cons.mpr ⟨by k_mem, List.forall_mem_cons.mpr ⟨by k_mem, List.forall_mem_cons.mpr ⟨by k_mem, List.forall_mem_cons.mpr ⟨by k_mem, List.forall_mem_cons.mpr ⟨by k_mem, List.forall_mem_cons.mpr ⟨by k_mem, List.forall_mem_nil _⟩⟩⟩⟩⟩⟩
      · exact List.forall_mem_cons.mpr ⟨by k_mem, List.forall_mem_nil _⟩
      · exact List.forall_mem_cons.mpr ⟨hcI, List.forall_mem_nil _⟩
      · have h3 : z ≠ Str.ofString "told" := by intro e; rw [e] at h2; revert h2; decide +kernel
        show (if z = _ then _ else if z = _ then _ else if (List.contains _ z) = true then _ else _) = _
        rw [if_neg h3, if_neg h1, h2]
        rfl
    · rename ¬ _ = _ => hc
      rename val _ _ = one * one => hV8
      rename Row _ _ => hR8
      exact absurd (Row.inj hB1 hR7 hR8 (by rw [hV7, hV8, hVa, Int.pow_succ, Int.pow_succ, Int.pow_zero, Int.one_mul])) hc
  · intro ps hx u h tk hJ kF kN
    dsimp only
    replace kN : News _ _ _ [(Da, listOf (List.toArray usa) ca), (Db, listOf (List.toArray usb) cb), (P, o4), (J, listOf (List.toArray us) cJ), (s1.heap.objs.size + 1, ob), (163, tabObj #[]), (156, tabObj ps)] := kst_newsOf kN (List.forall_mem_cons.mpr ⟨.tail _ (.head _), List.forall_mem_cons.mpr ⟨.tail _ (.tail _ (.head _)), List.forall_mem_cons.mpr ⟨.tail _ (.tail _ (.tail _ (.head _))), List.forall_mem_cons.mpr ⟨.tail _ (.tail _ (.tail _ (.tail _ (.head _)))), List.forall_mem_cons.mpr ⟨.tail _ (.tail _ (.tail _ (.tail _ (.tail _ (.head _))))), List.forall_mem_cons.mpr ⟨.tail _ (.tail _ (.tail _ (.tail _ (.tail _ (.tail _ (.head _)))))), List.forall_mem_cons.mpr ⟨.head _, List.forall_mem_nil _⟩⟩⟩⟩⟩⟩⟩)
    clear hJ
    have hu := mul_lt_pow hone0 hone2 hoth0 hoth2
    have hu0 := hu.1
    have hu1 := lt_512 hu.2 (by decide)
    have hum := IntMulOk.of_le hone4 hoth4 (by decide)
    have hna := row_short hB1 hRa (hVa ▸ hone1)
    have hnb := row_short hB1 hRb (hVb ▸ hoth1)
    refine execs_cutF (Str.ofString "told") (fun ps3 => [(Da, listOf (List.toArray usa) ca), (Db, listOf (List.toArray usb) cb), (P, o4), (J, listOf (List.toArray us) cJ), (s1.heap.objs.size + 1, ob), (163, tabObj ps3), (156, tabObj ps)]) kF ?_ ?_
    · k_steps
      repeat' ((first | (refine goOn ?_; k_here; (with_reducible show wpAny _ _ (PySem.call (Value.ref 135) _) _ _ _); (with_reducible rename Fr _ _ _ _ => kFq); (with_reducible rename News _ _ _ _ => kNq); k_dflt (refine' usePool (c_law_pool ⟨?zqgx, ?zqgt⟩ kFq.keep ?zqhl ?zqhi ?zqhn) kFq kNq rfl (by first | exact Nat.le_of_ble_eq_true rfl | (dsimp only [Ar]; omega)) (by first | exact Nat.le_of_ble_eq_true rfl | (dsimp only [Ar]; omega)) ?_; (case zqgx => with_reducible assumption); (case zqgt => with_reducible assumption); (case zqhl => first | exact Fr.lst kFq (by assumption) | exact News.isList kNq (by k_mem)); (case zqhi => with_reducible assumption); (case zqhn => first | with_reducible assumption | exact Nat.le_trans (by with_reducible assumption) (Nat.le_of_ble_eq_true rfl) | omega)); intro _ _ _ _ _ _ _ _ _ _ _ _ _ _ _ _; clear kFq kNq) | (refine goOn ?_; k_here; (with_reducible show wpAny _ _ (PySem.call (Value.ref 130) _) _ _ _); (with_reducible rename Fr _ _ _ _ => kFq); (with_reducible rename News _ _ _ _ => kNq); k_dflt (refine' useDraw (c_law_draw ⟨?zqgx, ?zqgt⟩ kFq.keep ?zqhP ?zqhO ?zqhJP ?zqhJ ?zqhi ?zqhn ?zqhPb ?zqhm) kFq kNq ?zqU rfl (by first | exact Nat.le_of_ble_eq_true rfl | (dsimp only [Ar]; omega)) (by first | exact Nat.le_of_ble_eq_true rfl | (dsimp only [Ar]; omega)) ?_; (case zqgx => with_reducible assumption); (case zqgt => with_reducible assumption); (case zqhP => exact (kNq (_, _) (by k_mem)).1); (case zqhPb => exact (kNq (_, _) (by k_mem)).2.2); (case zqhO => with_reducible assumption); (case zqhJP => with_reducible assumption); (case zqhJ => first | exact Fr.lst kFq (by assumption) | exact News.isList kNq (by k_mem)); (case zqhi => with_reducible assumption); (case zqhn => first | with_reducible assumption | exact Nat.le_trans (by with_reducible assumption) (Nat.le_of_ble_eq_true rfl) | omega); (case zqhm => first | with_reducible assumption | omega); (case zqU => k_updF)); intro _ _ _ _ _ _ kNn; (try dsimp only [List.append] at kNn); revert kNn; intro _ _ _ _; clear kFq kNq) | (refine goOn ?_; k_here; (with_reducible show wpAny _ _ (PySem.call (Value.ref 154) _) _ _ _); (with_reducible rename Fr _ _ _ _ => kFq); (with_reducible rename News _ _ _ _ => kNq); k_dflt (refine' useDraw (c_law_number ⟨?zqgx, ?zqgt⟩ kFq.keep ?zqhP ?zqhO ?zqhJP ?zqhJ ?zqhi ?zqhn ?zqhPb ?zqw0 ?zqw1 ?zqm0 ?zqm1) kFq kNq ?zqU rfl (by first | exact Nat.le_of_ble_eq_true rfl | (dsimp only [Ar]; omega)) (by first | exact Nat.le_of_ble_eq_true rfl | (dsimp only [Ar]; omega)) ?_; (case zqgx => with_reducible assumption); (case zqgt => with_reducible assumption); (case zqhP => exact (kNq (_, _) (by k_mem)).1); (case zqhPb => exact (kNq (_, _) (by k_mem)).2.2); (case zqhO => with_reducible assumption); (case zqhJP => with_reducible assumption); (case zqhJ => first | exact Fr.lst kFq (by assumption) | exact News.isList kNq (by k_mem)); (case zqhi => with_reducible assumption); (case zqhn => first | with_reducible assumption | exact Nat.le_trans (by with_reducible assumption) (Nat.le_of_ble_eq_true rfl) | omega); (case zqw0 => first | with_reducible assumption | omega); (case zqw1 => first | with_reducible assumption | omega); (case zqm0 => first | with_reducible assumption | omega); (case zqm1 => first | with_reducible assumption | omega); (case zqU => k_updF)); intro _ _ _ _ _ _ kNn; (try dsimp only [List.append] at kNn); revert kNn; intro _ _ _ _; clear kFq kNq) | (refine goOn ?_; k_here; (with_reducible show wpAny _ _ (PySem.call (Value.ref 142) _) _ _ _); (with_reducible rename Fr _ _ _ _ => kFq); (with_reducible rename News _ _ _ _ => kNq); k_dflt (refine' useList (c_law_row ⟨?zqgx, ?zqgt⟩ kFq.keep ?zqw0 ?zqw1 ?zqn0 ?zqn1) kFq kNq rfl (by first | exact Nat.le_of_ble_eq_true rfl | (dsimp only [Ar]; omega)) (by first | exact Nat.le_of_ble_eq_true rfl | (dsimp only [Ar]; omega)) ?_; (case zqgx => with_reducible assumption); (case zqgt => with_reducible assumption); (case zqw0 => first | with_reducible assumption | omega); (case zqw1 => first | with_reducible assumption | omega); (case zqn0 => first | with_reducible assumption | omega); (case zqn1 => first | with_reducible assumption | omega)); intro _ _ _ _ _ _ _ _ _ _ zhP; have _ := zhP.1; have _ := zhP.2; clear zhP; clear kFq kNq) | (refine goOn ?_; k_here; (with_reducible show wpAny _ _ (PySem.call (Value.ref 102) _) _ _ _); (with_reducible rename Fr _ _ _ _ => kFq); (with_reducible rename News _ _ _ _ => kNq); k_dflt (refine' useList (c_put_together ⟨?zqgx, ?zqgt⟩ kFq.keep ?zqhl ?zqhl2 ?zqhl3 ?zqhi ?zqhi2 ?zqhi3 ?zqhn ?zqhn2 ?zqhn3 ?zqs0 ?zqs1 ?zqw0 ?zqw1 ?zqr1 ?zqr2 ?zqr3) kFq kNq rfl (by first | exact Nat.le_of_ble_eq_true rfl | (dsimp only [Ar]; omega)) (by first | exact Nat.le_of_ble_eq_true rfl | (dsimp only [Ar]; omega)) ?_; (case zqgx => with_reducible assumption); (case zqgt => with_reducible assumption); (case zqhl => first | exact Fr.lst kFq (by with_reducible assumption) | exact News.isList kNq (by k_mem)); (case zqhl2 => first | exact Fr.lst kFq (by with_reducible assumption) | exact News.isList kNq (by k_mem)); (case zqhl3 => first | exact Fr.lst kFq (by with_reducible assumption) | exact News.isList kNq (by k_mem)); (case zqhi => with_reducible assumption); (case zqhi2 => with_reducible assumption); (case zqhi3 => with_reducible assumption); (case zqhn => first | with_reducible assumption | exact Nat.le_trans (by with_reducible assumption) (Nat.le_of_ble_eq_true rfl) | exact le_max3 (by with_reducible assumption) (by with_reducible assumption) (by with_reducible assumption) (by with_reducible assumption) rfl | omega | (simp only [List.length_take, List.length_drop, List.length_append, List.length_cons, List.length_nil]; omega)); (case zqhn2 => first | with_reducible assumption | exact Nat.le_trans (by with_reducible assumption) (Nat.le_of_ble_eq_true rfl) | exact le_max3 (by with_reducible assumption) (by with_reducible assumption) (by with_reducible assumption) (by with_reducible assumption) rfl | omega | (simp only [List.length_take, List.length_drop, List.length_append, List.length_cons, List.length_nil]; omega)); (case zqhn3 => first | with_reducible assumption | exact Nat.le_trans (by with_reducible assumption) (Nat.le_of_ble_eq_true rfl) | exact le_max3 (by with_reducible assumption) (by with_reducible assumption) (by with_reducible assumption) (by with_reducible assumption) rfl | omega | (simp only [List.length_take, List.length_drop, List.length_append, List.length_cons, List.length_nil]; omega)); (case zqs0 => first | with_reducible assumption | omega | (simp only [List.length_take, List.length_drop, List.length_append, List.length_cons, List.length_nil]; omega)); (case zqs1 => first | with_reducible assumption | omega | (simp only [List.length_take, List.length_drop, List.length_append, List.length_cons, List.length_nil]; omega)); (case zqw0 => first | with_reducible assumption | omega | (simp only [List.length_take, List.length_drop, List.length_append, List.length_cons, List.length_nil]; omega)); (case zqw1 => first | with_reducible assumption | omega | (simp only [List.length_take, List.length_drop, List.length_append, List.length_cons, List.length_nil]; omega)); (case zqr1 => with_reducible assumption); (case zqr2 => with_reducible assumption); (case zqr3 => with_reducible assumption)); intro _ _ _ _ _ _ _ _ _ _ zhP; have _ := zhP.1; have _ := zhP.2.1; have _ := zhP.2.2; clear zhP; clear kFq kNq) | (refine goOn ?_; k_here; (with_reducible show wpAny _ _ (PySem.call (Value.ref 109) _) _ _ _); (with_reducible rename Fr _ _ _ _ => kFq); (with_reducible rename News _ _ _ _ => kNq); k_dflt (refine' useList (c_middle_of ⟨?zqgx, ?zqgt⟩ kFq.keep ?zqhl ?zqhl2 ?zqhl3 ?zqhi ?zqhi2 ?zqhi3 ?zqhn ?zqhn2 ?zqhn3 ?zqw0 ?zqw1 ?zqr1 ?zqr2 ?zqr3 ?zqge) kFq kNq rfl (by first | exact Nat.le_of_ble_eq_true rfl | (dsimp only [Ar]; omega)) (by first | exact Nat.le_of_ble_eq_true rfl | (dsimp only [Ar]; omega)) ?_; (case zqgx => with_reducible assumption); (case zqgt => with_reducible assumption); (case zqhl => first | exact Fr.lst kFq (by with_reducible assumption) | exact News.isList kNq (by k_mem)); (case zqhl2 => first | exact Fr.lst kFq (by with_reducible assumption) | exact News.isList kNq (by k_mem)); (case zqhl3 => first | exact Fr.lst kFq (by with_reducible assumption) | exact News.isList kNq (by k_mem)); (case zqhi => with_reducible assumption); (case zqhi2 => with_reducible assumption); (case zqhi3 => with_reducible assumption); (case zqhn => first | with_reducible assumption | exact Nat.le_trans (by with_reducible assumption) (Nat.le_of_ble_eq_true rfl) | omega | (simp only [List.length_take, List.length_drop, List.length_append, List.length_cons, List.length_nil]; omega)); (case zqhn2 => first | with_reducible assumption | exact Nat.le_trans (by with_reducible assumption) (Nat.le_of_ble_eq_true rfl) | omega | (simp only [List.length_take, List.length_drop, List.length_append, List.length_cons, List.length_nil]; omega)); (case zqhn3 => first | with_reducible assumption | exact Nat.le_trans (by with_reducible assumption) (Nat.le_of_ble_eq_true rfl) | omega | (simp only [List.length_take, List.length_drop, List.length_append, List.length_cons, List.length_nil]; omega)); (case zqw0 => first | with_reducible assumption | omega | (simp only [List.length_take, List.length_drop, List.length_append, List.length_cons, List.length_nil]; omega)); (case zqw1 => first | with_reducible assumption | omega | (simp only [List.length_take, List.length_drop, List.length_append, List.length_cons, List.length_nil]; omega)); (case zqr1 => with_reducible assumption); (case zqr2 => with_reducible assumption); (case zqr3 => with_reducible assumption); (case zqge => first | with_reducible assumption | (intro _; omega) | (intro hb0; cases hb0))); intro _ _ _ _ _ _ _ _ _ _ zhP; have _ := zhP.1; have _ := zhP.2.1; have _ := zhP.2.2; clear zhP; clear kFq kNq) | (refine goOn ?_; k_dflt (refine' kmk_slice_ints ?zqF ?zqN ?zql ?zqp ?zqq ?zqi ?zqm rfl ?_ ?zqs ?zqt ?zqz; (case zqF => k_asm); (case zqN => k_asm); (case zql => first | exact Fr.lst (by assumption) (by assumption) | exact News.isList (by assumption) (by k_mem)); (case zqp => kmk_part); (case zqq => kmk_part); (case zqi => assumption); (case zqm => first | exact kmk_all (by assumption) | exact kmk_from (by assumption) (by first | assumption | omega) | exact kmk_upto (by assumption) (by first | assumption | omega) | exact kmk_run (by assumption) (by first | assumption | omega) (by first | assumption | omega)); (case zqs => with_unfolding_all rfl); (case zqt => kmk_pure); (case zqz => exact sz_ok (by assumption) (by omega))); intro _ _ _ _ _ zl1 _ zhC zhL; (try k_lt zl1); (try k_sweep); clear zhC zhL) | (refine goOn ?_; with_reducible rename Fr _ _ _ _ => kFq; with_reducible rename News _ _ _ _ => kNq; k_dflt (refine' appD kFq kNq ?zqo ?zqz ?_; (case zqo => first | exact offOne (by assumption) | exact offNil | assumption); (case zqz => first | assumption | omega)); intro _ _ _; clear kFq kNq) | fail); (try k_steps))
      · rename Fr _ _ _ _ => kF
        rename News _ _ _ _ => kN
        exact CutR.same kF (kst_newsOf kN (fun q hq => .tail _ hq))
      · unfold Stop
        rename Fr _ _ _ _ => kF
        rename News _ _ _ _ => kN
        rename _ ∧ _ ∧ _ => lT
        rename_i hmb T h6 F6o N6o h7
        clear F6o N6o
        replace kN : News _ _ _ ((T, listOf (List.toArray []) 0) :: [(Da, listOf (List.toArray usa) ca), (Db, listOf (List.toArray usb) cb), (P, o4), (J, listOf (List.toArray us) cJ), (s1.heap.objs.size + 1, ob), (163, tabObj #[]), (156, tabObj ps)]) := kst_newsOf kN (List.forall_mem_cons.mpr ⟨by k_mem, (List.forall_mem_cons.mpr ⟨by k_mem, (List.forall_mem_cons.mpr ⟨by k_mem, (List.forall_mem_cons.mpr ⟨by k_mem, (List.forall_mem_cons.mpr ⟨by k_mem, (List.forall_mem_cons.mpr ⟨by k_mem, (List.forall_mem_cons.mpr ⟨by k_mem, (List.forall_mem_cons.mpr ⟨by k_mem, (List.forall_mem_nil _)⟩)⟩)⟩)⟩)⟩)⟩)⟩)⟩)
        refine' useClo (c_law_product (c0 := 0) (o0 := tabObj #[]) (hx := []) (T := T) ⟨?gx, ?gt⟩ kF.keep (kN (163, _) (.tail _ (.tail _ (.tail _ (.tail _ (.tail _ (.tail _ (.head _)))))))).1 (kN (163, tabObj #[]) (.tail _ (.tail _ (.tail _ (.tail _ (.tail _ (.tail _ (.head _)))))))).2.2 (.inl rfl) (fun _ z => nomatch z) (kN (T, _) (.head _)).1 (kN (T, listOf (List.toArray []) 0) (.head _)).2.2 hw0 hw1) kF kN ?U (.inl rfl) rfl (by first | exact Nat.le_of_ble_eq_true rfl | (dsimp only [Ar]; omega)) (by first | exact Nat.le_of_ble_eq_true rfl | (dsimp only [Ar]; omega)) ?_
        case gx => with_reducible assumption
        case gt => with_reducible assumption
        case U => exact UpdF.tail (Nat.ne_of_gt lT.2.2.2.2.2.2.1) (UpdF.tail (by k_ne) (UpdF.tail (by k_ne) (UpdF.tail (by k_ne) (UpdF.tail (by k_ne) (UpdF.tail (by k_ne) (UpdF.head (List.forall_mem_cons.mpr ⟨by k_ne, (List.forall_mem_nil _)⟩)))))))
        clear kF kN
        intro f fo c' oc cw ow ct ot h8 tk8 kF kN nf nw nt hcc hfo hq hok
        try dsimp only at kN
        k_steps
        repeat' ((first | (refine goOn ?_; k_here; (with_reducible show wpAny _ _ (PySem.call (Value.ref 135) _) _ _ _); (with_reducible rename Fr _ _ _ _ => kFq); (with_reducible rename News _ _ _ _ => kNq); k_dflt (refine' usePool (c_law_pool ⟨?zqgx, ?zqgt⟩ kFq.keep ?zqhl ?zqhi ?zqhn) kFq kNq rfl (by first | exact Nat.le_of_ble_eq_true rfl | (dsimp only [Ar]; omega)) (by first | exact Nat.le_of_ble_eq_true rfl | (dsimp only [Ar]; omega)) ?_; (case zqgx => with_reducible assumption); (case zqgt => with_reducible assumption); (case zqhl => first | exact Fr.lst kFq (by assumption) | exact News.isList kNq (by k_mem)); (case zqhi => with_reducible assumption); (case zqhn => first | with_reducible assumption | exact Nat.le_trans (by with_reducible assumption) (Nat.le_of_ble_eq_true rfl) | omega)); intro _ _ _ _ _ _ _ _ _ _ _ _ _ _ _ _; clear kFq kNq) | (refine goOn ?_; k_here; (with_reducible show wpAny _ _ (PySem.call (Value.ref 130) _) _ _ _); (with_reducible rename Fr _ _ _ _ => kFq); (with_reducible rename News _ _ _ _ => kNq); k_dflt (refine' useDraw (c_law_draw ⟨?zqgx, ?zqgt⟩ kFq.keep ?zqhP ?zqhO ?zqhJP ?zqhJ ?zqhi ?zqhn ?zqhPb ?zqhm) kFq kNq ?zqU rfl (by first | exact Nat.le_of_ble_eq_true rfl | (dsimp only [Ar]; omega)) (by first | exact Nat.le_of_ble_eq_true rfl | (dsimp only [Ar]; omega)) ?_; (case zqgx => with_reducible assumption); (case zqgt => with_reducible assumption); (case zqhP => exact (kNq (_, _) (by k_mem)).1); (case zqhPb => exact (kNq (_, _) (by k_mem)).2.2); (case zqhO => with_reducible assumption); (case zqhJP => with_reducible assumption); (case zqhJ => first | exact Fr.lst kFq (by assumption) | exact News.isList kNq (by k_mem)); (case zqhi => with_reducible assumption); (case zqhn => first | with_reducible assumption | exact Nat.le_trans (by with_reducible assumption) (Nat.le_of_ble_eq_true rfl) | omega); (case zqhm => first | with_reducible assumption | omega); (case zqU => k_updF)); intro _ _ _ _ _ _ kNn; (try dsimp only [List.append] at kNn); revert kNn; intro _ _ _ _; clear kFq kNq) | (refine goOn ?_; k_here; (with_reducible show wpAny _ _ (PySem.call (Value.ref 154) _) _ _ _); (with_reducible rename Fr _ _ _ _ => kFq); (with_reducible rename News _ _ _ _ => kNq); k_dflt (refine' useDraw (c_law_number ⟨?zqgx, ?zqgt⟩ kFq.keep ?zqhP ?zqhO ?zqhJP ?zqhJ ?zqhi ?zqhn ?zqhPb ?zqw0 ?zqw1 ?zqm0 ?zqm1) kFq kNq ?zqU rfl (by first | exact Nat.le_of_ble_eq_true rfl | (dsimp only [Ar]; omega)) (by first | exact Nat.le_of_ble_eq_true rfl | (dsimp only [Ar]; omega)) ?_; (case zqgx => with_reducible assumption); (case zqgt => with_reducible assumption); (case zqhP => exact (kNq (_, _) (by k_mem)).1); (case zqhPb => exact (kNq (_, _) (by k_mem)).2.2); (case zqhO => with_reducible assumption); (case zqhJP => with_reducible assumption); (case zqhJ => first | exact Fr.lst kFq (by assumption) | exact News.isList kNq (by k_mem)); (case zqhi => with_reducible assumption); (case zqhn => first | with_reducible assumption | exact Nat.le_trans (by with_reducible assumption) (Nat.le_of_ble_eq_true rfl) | omega); (case zqw0 => first | with_reducible assumption | omega); (case zqw1 => first | with_reducible assumption | omega); (case zqm0 => first | with_reducible assumption | omega); (case zqm1 => first | with_reducible assumption | omega); (case zqU => k_updF)); intro _ _ _ _ _ _ kNn; (try dsimp only [List.append] at kNn); revert kNn; intro _ _ _ _; clear kFq kNq) | (refine goOn ?_; k_here; (with_reducible show wpAny _ _ (PySem.call (Value.ref 142) _) _ _ _); (with_reducible rename Fr _ _ _ _ => kFq); (with_reducible rename News _ _ _ _ => kNq); k_dflt (refine' useList (c_law_row ⟨?zqgx, ?zqgt⟩ kFq.keep ?zqw0 ?zqw1 ?zqn0 ?zqn1) kFq kNq rfl (by first | exact Nat.le_of_ble_eq_true rfl | (dsimp only [Ar]; omega)) (by first | exact Nat.le_of_ble_eq_true rfl | (dsimp only [Ar]; omega)) ?_; (case zqgx => with_reducible assumption); (case zqgt => with_reducible assumption); (case zqw0 => first | with_reducible assumption | omega); (case zqw1 => first | with_reducible assumption | omega); (case zqn0 => first | with_reducible assumption | omega); (case zqn1 => first | with_reducible assumption | omega)); intro _ _ _ _ _ _ _ _ _ _ zhP; have _ := zhP.1; have _ := zhP.2; clear zhP; clear kFq kNq) | (refine goOn ?_; k_here; (with_reducible show wpAny _ _ (PySem.call (Value.ref 102) _) _ _ _); (with_reducible rename Fr _ _ _ _ => kFq); (with_reducible rename News _ _ _ _ => kNq); k_dflt (refine' useList (c_put_together ⟨?zqgx, ?zqgt⟩ kFq.keep ?zqhl ?zqhl2 ?zqhl3 ?zqhi ?zqhi2 ?zqhi3 ?zqhn ?zqhn2 ?zqhn3 ?zqs0 ?zqs1 ?zqw0 ?zqw1 ?zqr1 ?zqr2 ?zqr3) kFq kNq rfl (by first | exact Nat.le_of_ble_eq_true rfl | (dsimp only [Ar]; omega)) (by first | exact Nat.le_of_ble_eq_true rfl | (dsimp only [Ar]; omega)) ?_; (case zqgx => with_reducible assumption); (case zqgt => with_reducible assumption); (case zqhl => first | exact Fr.lst kFq (by with_reducible assumption) | exact News.isList kNq (by k_mem)); (case zqhl2 => first | exact Fr.lst kFq (by with_reducible assumption) | exact News.isList kNq (by k_mem)); (case zqhl3 => first | exact Fr.lst kFq (by with_reducible assumption) | exact News.isList kNq (by k_mem)); (case zqhi => with_reducible assumption); (case zqhi2 => with_reducible assumption); (case zqhi3 => with_reducible assumption); (case zqhn => first | with_reducible assumption | exact Nat.le_trans (by with_reducible assumption) (Nat.le_of_ble_eq_true rfl) | exact le_max3 (by with_reducible assumption) (by with_reducible assumption) (by with_reducible assumption) (by with_reducible assumption) rfl | omega | (simp only [List.length_take, List.length_drop, List.length_append, List.length_cons, List.length_nil]; omega)); (case zqhn2 => first | with_reducible assumption | exact Nat.le_trans (by with_reducible assumption) (Nat.le_of_ble_eq_true rfl) | exact le_max3 (by with_reducible assumption) (by with_reducible assumption) (by with_reducible assumption) (by with_reducible assumption) rfl | omega | (simp only [List.length_take, List.length_drop, List.length_append, List.length_cons, List.length_nil]; omega)); (case zqhn3 => first | with_reducible assumption | exact Nat.le_trans (by with_reducible assumption) (Nat.le_of_ble_eq_true rfl) | exact le_max3 (by with_reducible assumption) (by with_reducible assumption) (by with_reducible assumption) (by with_reducible assumption) rfl | omega | (simp only [List.length_take, List.length_drop, List.length_append, List.length_cons, List.length_nil]; omega)); (case zqs0 => first | with_reducible assumption | omega | (simp only [List.length_take, List.length_drop, List.length_append, List.length_cons, List.length_nil]; omega)); (case zqs1 => first | with_reducible assumption | omega | (simp only [List.length_take, List.length_drop, List.length_append, List.length_cons, List.length_nil]; omega)); (case zqw0 => first | with_reducible assumption | omega | (simp only [List.length_take, List.length_drop, List.length_append, List.length_cons, List.length_nil]; omega)); (case zqw1 => first | with_reducible assumption | omega | (simp only [List.length_take, List.length_drop, List.length_append, List.length_cons, List.length_nil]; omega)); (case zqr1 => with_reducible assumption); (case zqr2 => with_reducible assumption); (case zqr3 => with_reducible assumption)); intro _ _ _ _ _ _ _ _ _ _ zhP; have _ := zhP.1; have _ := zhP.2.1; have _ := zhP.2.2; clear zhP; clear kFq kNq) | (refine goOn ?_; k_here; (with_reducible show wpAny _ _ (PySem.call (Value.ref 109) _) _ _ _); (with_reducible rename Fr _ _ _ _ => kFq); (with_reducible rename News _ _ _ _ => kNq); k_dflt (refine' useList (c_middle_of ⟨?zqgx, ?zqgt⟩ kFq.keep ?zqhl ?zqhl2 ?zqhl3 ?zqhi ?zqhi2 ?zqhi3 ?zqhn ?zqhn2 ?zqhn3 ?zqw0 ?zqw1 ?zqr1 ?zqr2 ?zqr3 ?zqge) kFq kNq rfl (by first | exact Nat.le_of_ble_eq_true rfl | (dsimp only [Ar]; omega)) (by first | exact Nat.le_of_ble_eq_true rfl | (dsimp only [Ar]; omega)) ?_; (case zqgx => with_reducible assumption); (case zqgt => with_reducible assumption); (case zqhl => first | exact Fr.lst kFq (by with_reducible assumption) | exact News.isList kNq (by k_mem)); (case zqhl2 => first | exact Fr.lst kFq (by with_reducible assumption) | exact News.isList kNq (by k_mem)); (case zqhl3 => first | exact Fr.lst kFq (by with_reducible assumption) | exact News.isList kNq (by k_mem)); (case zqhi => with_reducible assumption); (case zqhi2 => with_reducible assumption); (case zqhi3 => with_reducible assumption); (case zqhn => first | with_reducible assumption | exact Nat.le_trans (by with_reducible assumption) (Nat.le_of_ble_eq_true rfl) | omega | (simp only [List.length_take, List.length_drop, List.length_append, List.length_cons, List.length_nil]; omega)); (case zqhn2 => first | with_reducible assumption | exact Nat.le_trans (by with_reducible assumption) (Nat.le_of_ble_eq_true rfl) | omega | (simp only [List.length_take, List.length_drop, List.length_append, List.length_cons, List.length_nil]; omega)); (case zqhn3 => first | with_reducible assumption | exact Nat.le_trans (by with_reducible assumption) (Nat.le_of_ble_eq_true rfl) | omega | (simp only [List.length_take, List.length_drop, List.length_append, List.length_cons, List.length_nil]; omega)); (case zqw0 => first | with_reducible assumption | omega | (simp only [List.length_take, List.length_drop, List.length_append, List.length_cons, List.length_nil]; omega)); (case zqw1 => first | with_reducible assumption | omega | (simp only [List.length_take, List.length_drop, List.length_append, List.length_cons, List.length_nil]; omega)); (case zqr1 => with_reducible assumption); (case zqr2 => with_reducible assumption); (case zqr3 => with_reducible assumption); (case zqge => first | with_reducible assumption | (intro _; omega) | (intro hb0; cases hb0))); intro _ _ _ _ _ _ _ _ _ _ zhP; have _ := zhP.1; have _ := zhP.2.1; have _ := zhP.2.2; clear zhP; clear kFq kNq) | (refine goOn ?_; k_dflt (refine' kmk_slice_ints ?zqF ?zqN ?zql ?zqp ?zqq ?zqi ?zqm rfl ?_ ?zqs ?zqt ?zqz; (case zqF => k_asm); (case zqN => k_asm); (case zql => first | exact Fr.lst (by assumption) (by assumption) | exact News.isList (by assumption) (by k_mem)); (case zqp => kmk_part); (case zqq => kmk_part); (case zqi => assumption); (case zqm => first | exact kmk_all (by assumption) | exact kmk_from (by assumption) (by first | assumption | omega) | exact kmk_upto (by assumption) (by first | assumption | omega) | exact kmk_run (by assumption) (by first | assumption | omega) (by first | assumption | omega)); (case zqs => with_unfolding_all rfl); (case zqt => kmk_pure); (case zqz => exact sz_ok (by assumption) (by omega))); intro _ _ _ _ _ zl1 _ zhC zhL; (try k_lt zl1); (try k_sweep); clear zhC zhL) | (refine goOn ?_; with_reducible rename Fr _ _ _ _ => kFq; with_reducible rename News _ _ _ _ => kNq; k_dflt (refine' appD kFq kNq ?zqo ?zqz ?_; (case zqo => first | exact offOne (by assumption) | exact offNil | assumption); (case zqz => first | assumption | omega)); intro _ _ _; clear kFq kNq) | fail); (try k_steps))
        unfold Stop
        rename Fr _ _ _ _ => kF
        rename News _ _ _ _ => kN
        have hKT : ∀ q ∈ [(f, fo), (c', oc), (cw, ow), (ct, ot)], q.1 ≠ T := by
          refine List.forall_mem_cons.mpr ⟨(nf.ne (.head _)).symm, List.forall_mem_cons.mpr ⟨?_, List.forall_mem_cons.mpr ⟨(nw.ne (.head _)).symm, List.forall_mem_cons.mpr ⟨(nt.ne (.head _)).symm, List.forall_mem_nil _⟩⟩⟩⟩
          rcases hcc with ⟨_, hcc⟩ | ⟨hne, hcc⟩
          · exact (hcc.ne (.head _)).symm
          · exact absurd rfl hne
        have hTr : ∀ q ∈ [(Da, listOf (List.toArray usa) ca), (Db, listOf (List.toArray usb) cb), (P, o4), (J, listOf (List.toArray us) cJ), (s1.heap.objs.size + 1, ob), (163, tabObj #[rawInt (109 : Nat), rawInt (4 : Nat), .ref c']), (156, tabObj ps)], q.1 ≠ T := (List.forall_mem_cons.mpr ⟨by k_ne, (List.forall_mem_cons.mpr ⟨by k_ne, (List.forall_mem_cons.mpr ⟨by k_ne, (List.forall_mem_cons.mpr ⟨by k_ne, (List.forall_mem_cons.mpr ⟨by k_ne, (List.forall_mem_cons.mpr ⟨by k_ne, (List.forall_mem_cons.mpr ⟨by k_ne, (List.forall_mem_nil _)⟩)⟩)⟩)⟩)⟩)⟩)⟩)
        have hnb0 : 1 ≤ msb.length := by
          cases msb with
          | nil => exact absurd hmb (by decide)
          | cons x r => exact Nat.succ_le_succ (Nat.zero_le _)
        refine useMS ⟨by with_reducible assumption, by with_reducible assumption⟩ hok hfo kF.keep kF kN (kN (T, _) (.tail _ (.tail _ (.tail _ (.tail _ (.head _)))))).2.2 hKT hTr (.head _) (.tail _ (.head _)) hIa hIb hna hnb0 hnb hRa hRb hw0 hw1 rfl (by first | exact Nat.le_of_ble_eq_true rfl | (dsimp only [Ar]; omega)) (by first | exact Nat.le_of_ble_eq_true rfl | (dsimp only [Ar]; omega)) ?_
        clear kF kN
        intro D us7 c7 ms7 os e7 tups h9 tk9 kF kN hI7 hR7 hV7 htp hol
        try dsimp only at kN
        k_steps
        repeat' ((first | (refine goOn ?_; k_here; (with_reducible show wpAny _ _ (PySem.call (Value.ref 135) _) _ _ _); (with_reducible rename Fr _ _ _ _ => kFq); (with_reducible rename News _ _ _ _ => kNq); k_dflt (refine' usePool (c_law_pool ⟨?zqgx, ?zqgt⟩ kFq.keep ?zqhl ?zqhi ?zqhn) kFq kNq rfl (by first | exact Nat.le_of_ble_eq_true rfl | (dsimp only [Ar]; omega)) (by first | exact Nat.le_of_ble_eq_true rfl | (dsimp only [Ar]; omega)) ?_; (case zqgx => with_reducible assumption); (case zqgt => with_reducible assumption); (case zqhl => first | exact Fr.lst kFq (by assumption) | exact News.isList kNq (by k_mem)); (case zqhi => with_reducible assumption); (case zqhn => first | with_reducible assumption | exact Nat.le_trans (by with_reducible assumption) (Nat.le_of_ble_eq_true rfl) | omega)); intro _ _ _ _ _ _ _ _ _ _ _ _ _ _ _ _; clear kFq kNq) | (refine goOn ?_; k_here; (with_reducible show wpAny _ _ (PySem.call (Value.ref 130) _) _ _ _); (with_reducible rename Fr _ _ _ _ => kFq); (with_reducible rename News _ _ _ _ => kNq); k_dflt (refine' useDraw (c_law_draw ⟨?zqgx, ?zqgt⟩ kFq.keep ?zqhP ?zqhO ?zqhJP ?zqhJ ?zqhi ?zqhn ?zqhPb ?zqhm) kFq kNq ?zqU rfl (by first | exact Nat.le_of_ble_eq_true rfl | (dsimp only [Ar]; omega)) (by first | exact Nat.le_of_ble_eq_true rfl | (dsimp only [Ar]; omega)) ?_; (case zqgx => with_reducible assumption); (case zqgt => with_reducible assumption); (case zqhP => exact (kNq (_, _) (by k_mem)).1); (case zqhPb => exact (kNq (_, _) (by k_mem)).2.2); (case zqhO => with_reducible assumption); (case zqhJP => with_reducible assumption); (case zqhJ => first | exact Fr.lst kFq (by assumption) | exact News.isList kNq (by k_mem)); (case zqhi => with_reducible assumption); (case zqhn => first | with_reducible assumption | exact Nat.le_trans (by with_reducible assumption) (Nat.le_of_ble_eq_true rfl) | omega); (case zqhm => first | with_reducible assumption | omega); (case zqU => k_updF)); intro _ _ _ _ _ _ kNn; (try dsimp only [List.append] at kNn); revert kNn; intro _ _ _ _; clear kFq kNq) | (refine goOn ?_; k_here; (with_reducible show wpAny _ _ (PySem.call (Value.ref 154) _) _ _ _); (with_reducible rename Fr _ _ _ _ => kFq); (with_reducible rename News _ _ _ _ => kNq); k_dflt (refine' useDraw (c_law_number ⟨?zqgx, ?zqgt⟩ kFq.keep ?zqhP ?zqhO ?zqhJP ?zqhJ ?zqhi ?zqhn ?zqhPb ?zqw0 ?zqw1 ?zqm0 ?zqm1) kFq kNq ?zqU rfl (by first | exact Nat.le_of_ble_eq_true rfl | (dsimp only [Ar]; omega)) (by first | exact Nat.le_of_ble_eq_true rfl | (dsimp only [Ar]; omega)) ?_; (case zqgx => with_reducible assumption); (case zqgt => with_reducible assumption); (case zqhP => exact (kNq (_, _) (by k_mem)).1); (case zqhPb => exact (kNq (_, _) (by k_mem)).2.2); (case zqhO => with_reducible assumption); (case zqhJP => with_reducible assumption); (case zqhJ => first | exact Fr.lst kFq (by assumption) | exact News.isList kNq (by k_mem)); (case zqhi => with_reducible assumption); (case zqhn => first | with_reducible assumption | exact Nat.le_trans (by with_reducible assumption) (Nat.le_of_ble_eq_true rfl) | omega); (case zqw0 => first | with_reducible assumption | omega); (case zqw1 => first | with_reducible assumption | omega); (case zqm0 => first | with_reducible assumption | omega); (case zqm1 => first | with_reducible assumption | omega); (case zqU => k_updF)); intro _ _ _ _ _ _ kNn; (try dsimp only [List.append] at kNn); revert kNn; intro _ _ _ _; clear kFq kNq) | (refine goOn ?_; k_here; (with_reducible show wpAny _ _ (PySem.call (Value.ref 142) _) _ _ _); (with_reducible rename Fr _ _ _ _ => kFq); (with_reducible rename News _ _ _ _ => kNq); k_dflt (refine' useList (c_law_row ⟨?zqgx, ?zqgt⟩ kFq.keep ?zqw0 ?zqw1 ?zqn0 ?zqn1) kFq kNq rfl (by first | exact Nat.le_of_ble_eq_true rfl | (dsimp only [Ar]; omega)) (by first | exact Nat.le_of_ble_eq_true rfl | (dsimp only [Ar]; omega)) ?_; (case zqgx => with_reducible assumption); (case zqgt => with_reducible assumption); (case zqw0 => first | with_reducible assumption | omega); (case zqw1 => first | with_reducible assumption | omega); (case zqn0 => first | with_reducible assumption | omega); (case zqn1 => first | with_reducible assumption | omega)); intro _ _ _ _ _ _ _ _ _ _ zhP; have _ := zhP.1; have _ := zhP.2; clear zhP; clear kFq kNq) | (refine goOn ?_; k_here; (with_reducible show wpAny _ _ (PySem.call (Value.ref 102) _) _ _ _); (with_reducible rename Fr _ _ _ _ => kFq); (with_reducible rename News _ _ _ _ => kNq); k_dflt (refine' useList (c_put_together ⟨?zqgx, ?zqgt⟩ kFq.keep ?zqhl ?zqhl2 ?zqhl3 ?zqhi ?zqhi2 ?zqhi3 ?zqhn ?zqhn2 ?zqhn3 ?zqs0 ?zqs1 ?zqw0 ?zqw1 ?zqr1 ?zqr2 ?zqr3) kFq kNq rfl (by first | exact Nat.le_of_ble_eq_true rfl | (dsimp only [Ar]; omega)) (by first | exact Nat.le_of_ble_eq_true rfl | (dsimp only [Ar]; omega)) ?_; (case zqgx => with_reducible assumption); (case zqgt => with_reducible assumption); (case zqhl => first | exact Fr.lst kFq (by with_reducible assumption) | exact News.isList kNq (by k_mem)); (case zqhl2 => first | exact Fr.lst kFq (by with_reducible assumption) | exact News.isList kNq (by k_mem)); (case zqhl3 => first | exact Fr.lst kFq (by with_reducible assumption) | exact News.isList kNq (by k_mem)); (case zqhi => with_reducible assumption); (case zqhi2 => with_reducible assumption); (case zqhi3 => with_reducible assumption); (case zqhn => first | with_reducible assumption | exact Nat.le_trans (by with_reducible assumption) (Nat.le_of_ble_eq_true rfl) | exact le_max3 (by with_reducible assumption) (by with_reducible assumption) (by with_reducible assumption) (by with_reducible assumption) rfl | omega | (simp only [List.length_take, List.length_drop, List.length_append, List.length_cons, List.length_nil]; omega)); (case zqhn2 => first | with_reducible assumption | exact Nat.le_trans (by with_reducible assumption) (Nat.le_of_ble_eq_true rfl) | exact le_max3 (by with_reducible assumption) (by with_reducible assumption) (by with_reducible assumption) (by with_reducible assumption) rfl | omega | (simp only [List.length_take, List.length_drop, List.length_append, List.length_cons, List.length_nil]; omega)); (case zqhn3 => first | with_reducible assumption | exact Nat.le_trans (by with_reducible assumption) (Nat.le_of_ble_eq_true rfl) | exact le_max3 (by with_reducible assumption) (by with_reducible assumption) (by with_reducible assumption) (by with_reducible assumption) rfl | omega | (simp only [List.length_take, List.length_drop, List.length_append, List.length_cons, List.length_nil]; omega)); (case zqs0 => first | with_reducible assumption | omega | (simp only [List.length_take, List.length_drop, List.length_append, List.length_cons, List.length_nil]; omega)); (case zqs1 => first | with_reducible assumption | omega | (simp only [List.length_take, List.length_drop, List.length_append, List.length_cons, List.length_nil]; omega)); (case zqw0 => first | with_reducible assumption | omega | (simp only [List.length_take, List.length_drop, List.length_append, List.length_cons, List.length_nil]; omega)); (case zqw1 => first | with_reducible assumption | omega | (simp only [List.length_take, List.length_drop, List.length_append, List.length_cons, List.length_nil]; omega)); (case zqr1 => with_reducible assumption); (case zqr2 => with_reducible assumption); (case zqr3 => with_reducible assumption)); intro _ _ _ _ _ _ _ _ _ _ zhP; have _ := zhP.1; have _ := zhP.2.1; have _ := zhP.2.2; clear zhP; clear kFq kNq) | (refine goOn ?_; k_here; (with_reducible show wpAny _ _ (PySem.call (Value.ref 109) _) _ _ _); (with_reducible rename Fr _ _ _ _ => kFq); (with_reducible rename News _ _ _ _ => kNq); k_dflt (refine' useList (c_middle_of ⟨?zqgx, ?zqgt⟩ kFq.keep ?zqhl ?zqhl2 ?zqhl3 ?zqhi ?zqhi2 ?zqhi3 ?zqhn ?zqhn2 ?zqhn3 ?zqw0 ?zqw1 ?zqr1 ?zqr2 ?zqr3 ?zqge) kFq kNq rfl (by first | exact Nat.le_of_ble_eq_true rfl | (dsimp only [Ar]; omega)) (by first | exact Nat.le_of_ble_eq_true rfl | (dsimp only [Ar]; omega)) ?_; (case zqgx => with_reducible assumption); (case zqgt => with_reducible assumption); (case zqhl => first | exact Fr.lst kFq (by with_reducible assumption) | exact News.isList kNq (by k_mem)); (case zqhl2 => first | exact Fr.lst kFq (by with_reducible assumption) | exact News.isList kNq (by k_mem)); (case zqhl3 => first | exact Fr.lst kFq (by with_reducible assumption) | exact News.isList kNq (by k_mem)); (case zqhi => with_reducible assumption); (case zqhi2 => with_reducible assumption); (case zqhi3 => with_reducible assumption); (case zqhn => first | with_reducible assumption | exact Nat.le_trans (by with_reducible assumption) (Nat.le_of_ble_eq_true rfl) | omega | (simp only [List.length_take, List.length_drop, List.length_append, List.length_cons, List.length_nil]; omega)); (case zqhn2 => first | with_reducible assumption | exact Nat.le_trans (by with_reducible assumption) (Nat.le_of_ble_eq_true rfl) | omega | (simp only [List.length_take, List.length_drop, List.length_append, List.length_cons, List.length_nil]; omega)); (case zqhn3 => first | with_reducible assumption | exact Nat.le_trans (by with_reducible assumption) (Nat.le_of_ble_eq_true rfl) | omega | (simp only [List.length_take, List.length_drop, List.length_append, List.length_cons, List.length_nil]; omega)); (case zqw0 => first | with_reducible assumption | omega | (simp only [List.length_take, List.length_drop, List.length_append, List.length_cons, List.length_nil]; omega)); (case zqw1 => first | with_reducible assumption | omega | (simp only [List.length_take, List.length_drop, List.length_append, List.length_cons, List.length_nil]; omega)); (case zqr1 => with_reducible assumption); (case zqr2 => with_reducible assumption); (case zqr3 => with_reducible assumption); (case zqge => first | with_reducible assumption | (intro _; omega) | (intro hb0; cases hb0))); intro _ _ _ _ _ _ _ _ _ _ zhP; have _ := zhP.1; have _ := zhP.2.1; have _ := zhP.2.2; clear zhP; clear kFq kNq) | (refine goOn ?_; k_dflt (refine' kmk_slice_ints ?zqF ?zqN ?zql ?zqp ?zqq ?zqi ?zqm rfl ?_ ?zqs ?zqt ?zqz; (case zqF => k_asm); (case zqN => k_asm); (case zql => first | exact Fr.lst (by assumption) (by assumption) | exact News.isList (by assumption) (by k_mem)); (case zqp => kmk_part); (case zqq => kmk_part); (case zqi => assumption); (case zqm => first | exact kmk_all (by assumption) | exact kmk_from (by assumption) (by first | assumption | omega) | exact kmk_upto (by assumption) (by first | assumption | omega) | exact kmk_run (by assumption) (by first | assumption | omega) (by first | assumption | omega)); (case zqs => with_unfolding_all rfl); (case zqt => kmk_pure); (case zqz => exact sz_ok (by assumption) (by omega))); intro _ _ _ _ _ zl1 _ zhC zhL; (try k_lt zl1); (try k_sweep); clear zhC zhL) | (refine goOn ?_; with_reducible rename Fr _ _ _ _ => kFq; with_reducible rename News _ _ _ _ => kNq; k_dflt (refine' appD kFq kNq ?zqo ?zqz ?_; (case zqo => first | exact offOne (by assumption) | exact offNil | assumption); (case zqz => first | assumption | omega)); intro _ _ _; clear kFq kNq) | fail); (try k_steps))
        · unfold Stop
          rename Fr _ _ _ _ => kF
          rename News _ _ _ _ => kN
          refine lc_none rfl (by rfl) (by decide) (by rfl) (by decide) (by rfl) ?_ (by intro _; rfl)
          k_steps
          repeat' ((first | (refine goOn ?_; k_here; (with_reducible show wpAny _ _ (PySem.call (Value.ref 135) _) _ _ _); (with_reducible rename Fr _ _ _ _ => kFq); (with_reducible rename News _ _ _ _ => kNq); k_dflt (refine' usePool (c_law_pool ⟨?zqgx, ?zqgt⟩ kFq.keep ?zqhl ?zqhi ?zqhn) kFq kNq rfl (by first | exact Nat.le_of_ble_eq_true rfl | (dsimp only [Ar]; omega)) (by first | exact Nat.le_of_ble_eq_true rfl | (dsimp only [Ar]; omega)) ?_; (case zqgx => with_reducible assumption); (case zqgt => with_reducible assumption); (case zqhl => first | exact Fr.lst kFq (by assumption) | exact News.isList kNq (by k_mem)); (case zqhi => with_reducible assumption); (case zqhn => first | with_reducible assumption | exact Nat.le_trans (by with_reducible assumption) (Nat.le_of_ble_eq_true rfl) | omega)); intro _ _ _ _ _ _ _ _ _ _ _ _ _ _ _ _; clear kFq kNq) | (refine goOn ?_; k_here; (with_reducible show wpAny _ _ (PySem.call (Value.ref 130) _) _ _ _); (with_reducible rename Fr _ _ _ _ => kFq); (with_reducible rename News _ _ _ _ => kNq); k_dflt (refine' useDraw (c_law_draw ⟨?zqgx, ?zqgt⟩ kFq.keep ?zqhP ?zqhO ?zqhJP ?zqhJ ?zqhi ?zqhn ?zqhPb ?zqhm) kFq kNq ?zqU rfl (by first | exact Nat.le_of_ble_eq_true rfl | (dsimp only [Ar]; omega)) (by first | exact Nat.le_of_ble_eq_true rfl | (dsimp only [Ar]; omega)) ?_; (case zqgx => with_reducible assumption); (case zqgt => with_reducible assumption); (case zqhP => exact (kNq (_, _) (by k_mem)).1); (case zqhPb => exact (kNq (_, _) (by k_mem)).2.2); (case zqhO => with_reducible assumption); (case zqhJP => with_reducible assumption); (case zqhJ => first | exact Fr.lst kFq (by assumption) | exact News.isList kNq (by k_mem)); (case zqhi => with_reducible assumption); (case zqhn => first | with_reducible assumption | exact Nat.le_trans (by with_reducible assumption) (Nat.le_of_ble_eq_true rfl) | omega); (case zqhm => first | with_reducible assumption | omega); (case zqU => k_updF)); intro _ _ _ _ _ _ kNn; (try dsimp only [List.append] at kNn); revert kNn; intro _ _ _ _; clear kFq kNq) | (refine goOn ?_; k_here; (with_reducible show wpAny _ _ (PySem.call (Value.ref 154) _) _ _ _); (with_reducible rename Fr _ _ _ _ => kFq); (with_reducible rename News _ _ _ _ => kNq); k_dflt (refine' useDraw (c_law_number ⟨?zqgx, ?zqgt⟩ kFq.keep ?zqhP ?zqhO ?zqhJP ?zqhJ ?zqhi ?zqhn ?zqhPb ?zqw0 ?zqw1 ?zqm0 ?zqm1) kFq kNq ?zqU rfl (by first | exact Nat.le_of_ble_eq_true rfl | (dsimp only [Ar]; omega)) (by first | exact Nat.le_of_ble_eq_true rfl | (dsimp only [Ar]; omega)) ?_; (case zqgx => with_reducible assumption); (case zqgt => with_reducible assumption); (case zqhP => exact (kNq (_, _) (by k_mem)).1); (case zqhPb => exact (kNq (_, _) (by k_mem)).2.2); (case zqhO => with_reducible assumption); (case zqhJP => with_reducible assumption); (case zqhJ => first | exact Fr.lst kFq (by assumption) | exact News.isList kNq (by k_mem)); (case zqhi => with_reducible assumption); (case zqhn => first | with_reducible assumption | exact Nat.le_trans (by with_reducible assumption) (Nat.le_of_ble_eq_true rfl) | omega); (case zqw0 => first | with_reducible assumption | omega); (case zqw1 => first | with_reducible assumption | omega); (case zqm0 => first | with_reducible assumption | omega); (case zqm1 => first | with_reducible assumption | omega); (case zqU => k_updF)); intro _ _ _ _ _ _ kNn; (try dsimp only [List.append] at kNn); revert kNn; intro _ _ _ _; clear kFq kNq) | (refine goOn ?_; k_here; (with_reducible show wpAny _ _ (PySem.call (Value.ref 142) _) _ _ _); (with_reducible rename Fr _ _ _ _ => kFq); (with_reducible rename News _ _ _ _ => kNq); k_dflt (refine' useList (c_law_row ⟨?zqgx, ?zqgt⟩ kFq.keep ?zqw0 ?zqw1 ?zqn0 ?zqn1) kFq kNq rfl (by first | exact Nat.le_of_ble_eq_true rfl | (dsimp only [Ar]; omega)) (by first | exact Nat.le_of_ble_eq_true rfl | (dsimp only [Ar]; omega)) ?_; (case zqgx => with_reducible assumption); (case zqgt => with_reducible assumption); (case zqw0 => first | with_reducible assumption | omega); (case zqw1 => first | with_reducible assumption | omega); (case zqn0 => first | with_reducible assumption | omega); (case zqn1 => first | with_reducible assumption | omega)); intro _ _ _ _ _ _ _ _ _ _ zhP; have _ := zhP.1; have _ := zhP.2; clear zhP; clear kFq kNq) | (refine goOn ?_; k_here; (with_reducible show wpAny _ _ (PySem.call (Value.ref 102) _) _ _ _); (with_reducible rename Fr _ _ _ _ => kFq); (with_reducible rename News _ _ _ _ => kNq); k_dflt (refine' useList (c_put_together ⟨?zqgx, ?zqgt⟩ kFq.keep ?zqhl ?zqhl2 ?zqhl3 ?zqhi ?zqhi2 ?zqhi3 ?zqhn ?zqhn2 ?zqhn3 ?zqs0 ?zqs1 ?zqw0 ?zqw1 ?zqr1 ?zqr2 ?zqr3) kFq kNq rfl (by first | exact Nat.le_of_ble_eq_true rfl | (dsimp only [Ar]; omega)) (by first | exact Nat.le_of_ble_eq_true rfl | (dsimp only [Ar]; omega)) ?_; (case zqgx => with_reducible assumption); (case zqgt => with_reducible assumption); (case zqhl => first | exact Fr.lst kFq (by with_reducible assumption) | exact News.isList kNq (by k_mem)); (case zqhl2 => first | exact Fr.lst kFq (by with_reducible assumption) | exact News.isList kNq (by k_mem)); (case zqhl3 => first | exact Fr.lst kFq (by with_reducible assumption) | exact News.isList kNq (by k_mem)); (case zqhi => with_reducible assumption); (case zqhi2 => with_reducible assumption); (case zqhi3 => with_reducible assumption); (case zqhn => first | with_reducible assumption | exact Nat.le_trans (by with_reducible assumption) (Nat.le_of_ble_eq_true rfl) | exact le_max3 (by with_reducible assumption) (by with_reducible assumption) (by with_reducible assumption) (by with_reducible assumption) rfl | omega | (simp only [List.length_take, List.length_drop, List.length_append, List.length_cons, List.length_nil]; omega)); (case zqhn2 => first | with_reducible assumption | exact Nat.le_trans (by with_reducible assumption) (Nat.le_of_ble_eq_true rfl) | exact le_max3 (by with_reducible assumption) (by with_reducible assumption) (by with_reducible assumption) (by with_reducible assumption) rfl | omega | (simp only [List.length_take, List.length_drop, List.length_append, List.length_cons, List.length_nil]; omega)); (case zqhn3 => first | with_reducible assumption | exact Nat.le_trans (by with_reducible assumption) (Nat.le_of_ble_eq_true rfl) | exact le_max3 (by with_reducible assumption) (by with_reducible assumption) (by with_reducible assumption) (by with_reducible assumption) rfl | omega | (simp only [List.length_take, List.length_drop, List.length_append, List.length_cons, List.length_nil]; omega)); (case zqs0 => first | with_reducible assumption | omega | (simp only [List.length_take, List.length_drop, List.length_append, List.length_cons, List.length_nil]; omega)); (case zqs1 => first | with_reducible assumption | omega | (simp only [List.length_take, List.length_drop, List.length_append, List.length_cons, List.length_nil]; omega)); (case zqw0 => first | with_reducible assumption | omega | (simp only [List.length_take, List.length_drop, List.length_append, List.length_cons, List.length_nil]; omega)); (case zqw1 => first | with_reducible assumption | omega | (simp only [List.length_take, List.length_drop, List.length_append, List.length_cons, List.length_nil]; omega)); (case zqr1 => with_reducible assumption); (case zqr2 => with_reducible assumption); (case zqr3 => with_reducible assumption)); intro _ _ _ _ _ _ _ _ _ _ zhP; have _ := zhP.1; have _ := zhP.2.1; have _ := zhP.2.2; clear zhP; clear kFq kNq) | (refine goOn ?_; k_here; (with_reducible show wpAny _ _ (PySem.call (Value.ref 109) _) _ _ _); (with_reducible rename Fr _ _ _ _ => kFq); (with_reducible rename News _ _ _ _ => kNq); k_dflt (refine' useList (c_middle_of ⟨?zqgx, ?zqgt⟩ kFq.keep ?zqhl ?zqhl2 ?zqhl3 ?zqhi ?zqhi2 ?zqhi3 ?zqhn ?zqhn2 ?zqhn3 ?zqw0 ?zqw1 ?zqr1 ?zqr2 ?zqr3 ?zqge) kFq kNq rfl (by first | exact Nat.le_of_ble_eq_true rfl | (dsimp only [Ar]; omega)) (by first | exact Nat.le_of_ble_eq_true rfl | (dsimp only [Ar]; omega)) ?_; (case zqgx => with_reducible assumption); (case zqgt => with_reducible assumption); (case zqhl => first | exact Fr.lst kFq (by with_reducible assumption) | exact News.isList kNq (by k_mem)); (case zqhl2 => first | exact Fr.lst kFq (by with_reducible assumption) | exact News.isList kNq (by k_mem)); (case zqhl3 => first | exact Fr.lst kFq (by with_reducible assumption) | exact News.isList kNq (by k_mem)); (case zqhi => with_reducible assumption); (case zqhi2 => with_reducible assumption); (case zqhi3 => with_reducible assumption); (case zqhn => first | with_reducible assumption | exact Nat.le_trans (by with_reducible assumption) (Nat.le_of_ble_eq_true rfl) | omega | (simp only [List.length_take, List.length_drop, List.length_append, List.length_cons, List.length_nil]; omega)); (case zqhn2 => first | with_reducible assumption | exact Nat.le_trans (by with_reducible assumption) (Nat.le_of_ble_eq_true rfl) | omega | (simp only [List.length_take, List.length_drop, List.length_append, List.length_cons, List.length_nil]; omega)); (case zqhn3 => first | with_reducible assumption | exact Nat.le_trans (by with_reducible assumption) (Nat.le_of_ble_eq_true rfl) | omega | (simp only [List.length_take, List.length_drop, List.length_append, List.length_cons, List.length_nil]; omega)); (case zqw0 => first | with_reducible assumption | omega | (simp only [List.length_take, List.length_drop, List.length_append, List.length_cons, List.length_nil]; omega)); (case zqw1 => first | with_reducible assumption | omega | (simp only [List.length_take, List.length_drop, List.length_append, List.length_cons, List.length_nil]; omega)); (case zqr1 => with_reducible assumption); (case zqr2 => with_reducible assumption); (case zqr3 => with_reducible assumption); (case zqge => first | with_reducible assumption | (intro _; omega) | (intro hb0; cases hb0))); intro _ _ _ _ _ _ _ _ _ _ zhP; have _ := zhP.1; have _ := zhP.2.1; have _ := zhP.2.2; clear zhP; clear kFq kNq) | (refine goOn ?_; k_dflt (refine' kmk_slice_ints ?zqF ?zqN ?zql ?zqp ?zqq ?zqi ?zqm rfl ?_ ?zqs ?zqt ?zqz; (case zqF => k_asm); (case zqN => k_asm); (case zql => first | exact Fr.lst (by assumption) (by assumption) | exact News.isList (by assumption) (by k_mem)); (case zqp => kmk_part); (case zqq => kmk_part); (case zqi => assumption); (case zqm => first | exact kmk_all (by assumption) | exact kmk_from (by assumption) (by first | assumption | omega) | exact kmk_upto (by assumption) (by first | assumption | omega) | exact kmk_run (by assumption) (by first | assumption | omega) (by first | assumption | omega)); (case zqs => with_unfolding_all rfl); (case zqt => kmk_pure); (case zqz => exact sz_ok (by assumption) (by omega))); intro _ _ _ _ _ zl1 _ zhC zhL; (try k_lt zl1); (try k_sweep); clear zhC zhL) | (refine goOn ?_; with_reducible rename Fr _ _ _ _ => kFq; with_reducible rename News _ _ _ _ => kNq; k_dflt (refine' appD kFq kNq ?zqo ?zqz ?_; (case zqo => first | exact offOne (by assumption) | exact offNil | assumption); (case zqz => first | assumption | omega)); intro _ _ _; clear kFq kNq) | fail); (try k_steps))
          rename Fr _ _ _ _ => kF
          rename News _ _ _ _ => kN
          refine ⟨T, _, rfl, ⟨News.isList kN (.tail _ (.tail _ (.head _))), by rw [List.size_toArray]; omega, ?_, ?_⟩⟩
          · intro i v C s3 m2 E' hv hC hn hx hk3
            obtain ⟨t, n, x, t1, t2, rfl, hm, hx0, hx1⟩ := htp v (List.mem_of_getElem? (by simpa using hv))
            have k3 : Kept [] _ s3.heap := fun c o _ q => hk3 c o q
            have F3 := k3.fr kF fun _ z => nomatch z
            have N3 := k3.news kN fun _ _ z => nomatch z
            have N4 : News _ _ s3.heap [(t, tupOf [.int x t1, .int (msb.length : Int) t2] n), (Db, listOf (List.toArray usb) cb), (s1.heap.objs.size + 1, ob)] := kst_newsOf N3 (List.forall_mem_cons.mpr ⟨.tail _ (.tail _ (.tail _ (List.mem_append_right _ hm))), List.forall_mem_cons.mpr ⟨.tail _ (.tail _ (.tail _ (.tail _ (.head _)))), List.forall_mem_cons.mpr ⟨.tail _ (.tail _ (.tail _ (.tail _ (.tail _ (.tail _ (.tail _ (.head _))))))), List.forall_mem_nil _⟩⟩⟩)
            clear kF kN N3 k3
            show wpAny _ _ _ (NoPost s3) _ _
            k_steps
            repeat' ((first | (refine goOn ?_; k_here; (with_reducible show wpAny _ _ (PySem.call (Value.ref 135) _) _ _ _); (with_reducible rename Fr _ _ _ _ => kFq); (with_reducible rename News _ _ _ _ => kNq); k_dflt (refine' usePool (c_law_pool ⟨?zqgx, ?zqgt⟩ kFq.keep ?zqhl ?zqhi ?zqhn) kFq kNq rfl (by first | exact Nat.le_of_ble_eq_true rfl | (dsimp only [Ar]; omega)) (by first | exact Nat.le_of_ble_eq_true rfl | (dsimp only [Ar]; omega)) ?_; (case zqgx => with_reducible assumption); (case zqgt => with_reducible assumption); (case zqhl => first | exact Fr.lst kFq (by assumption) | exact News.isList kNq (by k_mem)); (case zqhi => with_reducible assumption); (case zqhn => first | with_reducible assumption | exact Nat.le_trans (by with_reducible assumption) (Nat.le_of_ble_eq_true rfl) | omega)); intro _ _ _ _ _ _ _ _ _ _ _ _ _ _ _ _; clear kFq kNq) | (refine goOn ?_; k_here; (with_reducible show wpAny _ _ (PySem.call (Value.ref 130) _) _ _ _); (with_reducible rename Fr _ _ _ _ => kFq); (with_reducible rename News _ _ _ _ => kNq); k_dflt (refine' useDraw (c_law_draw ⟨?zqgx, ?zqgt⟩ kFq.keep ?zqhP ?zqhO ?zqhJP ?zqhJ ?zqhi ?zqhn ?zqhPb ?zqhm) kFq kNq ?zqU rfl (by first | exact Nat.le_of_ble_eq_true rfl | (dsimp only [Ar]; omega)) (by first | exact Nat.le_of_ble_eq_true rfl | (dsimp only [Ar]; omega)) ?_; (case zqgx => with_reducible assumption); (case zqgt => with_reducible assumption); (case zqhP => exact (kNq (_, _) (by k_mem)).1); (case zqhPb => exact (kNq (_, _) (by k_mem)).2.2); (case zqhO => with_reducible assumption); (case zqhJP => with_reducible assumption); (case zqhJ => first | exact Fr.lst kFq (by assumption) | exact News.isList kNq (by k_mem)); (case zqhi => with_reducible assumption); (case zqhn => first | with_reducible assumption | exact Nat.le_trans (by with_reducible assumption) (Nat.le_of_ble_eq_true rfl) | omega); (case zqhm => first | with_reducible assumption | omega); (case zqU => k_updF)); intro _ _ _ _ _ _ kNn; (try dsimp only [List.append] at kNn); revert kNn; intro _ _ _ _; clear kFq kNq) | (refine goOn ?_; k_here; (with_reducible show wpAny _ _ (PySem.call (Value.ref 154) _) _ _ _); (with_reducible rename Fr _ _ _ _ => kFq); (with_reducible rename News _ _ _ _ => kNq); k_dflt (refine' useDraw (c_law_number ⟨?zqgx, ?zqgt⟩ kFq.keep ?zqhP ?zqhO ?zqhJP ?zqhJ ?zqhi ?zqhn ?zqhPb ?zqw0 ?zqw1 ?zqm0 ?zqm1) kFq kNq ?zqU rfl (by first | exact Nat.le_of_ble_eq_true rfl | (dsimp only [Ar]; omega)) (by first | exact Nat.le_of_ble_eq_true rfl | (dsimp only [Ar]; omega)) ?_; (case zqgx => with_reducible assumption); (case zqgt => with_reducible assumption); (case zqhP => exact (kNq (_, _) (by k_mem)).1); (case zqhPb => exact (kNq (_, _) (by k_mem)).2.2); (case zqhO => with_reducible assumption); (case zqhJP => with_reducible assumption); (case zqhJ => first | exact Fr.lst kFq (by assumption) | exact News.isList kNq (by k_mem)); (case zqhi => with_reducible assumption); (case zqhn => first | with_reducible assumption | exact Nat.le_trans (by with_reducible assumption) (Nat.le_of_ble_eq_true rfl) | omega); (case zqw0 => first | with_reducible assumption | omega); (case zqw1 => first | with_reducible assumption | omega); (case zqm0 => first | with_reducible assumption | omega); (case zqm1 => first | with_reducible assumption | omega); (case zqU => k_updF)); intro _ _ _ _ _ _ kNn; (try dsimp only [List.append] at kNn); revert kNn; intro _ _ _ _; clear kFq kNq) | (refine goOn ?_; k_here; (with_reducible show wpAny _ _ (PySem.call (Value.ref 142) _) _ _ _); (with_reducible rename Fr _ _ _ _ => kFq); (with_reducible rename News _ _ _ _ => kNq); k_dflt (refine' useList (c_law_row ⟨?zqgx, ?zqgt⟩ kFq.keep ?zqw0 ?zqw1 ?zqn0 ?zqn1) kFq kNq rfl (by first | exact Nat.le_of_ble_eq_true rfl | (dsimp only [Ar]; omega)) (by first | exact Nat.le_of_ble_eq_true rfl | (dsimp only [Ar]; omega)) ?_; (case zqgx => with_reducible assumption); (case zqgt => with_reducible assumption); (case zqw0 => first | with_reducible assumption | omega); (case zqw1 => first | with_reducible assumption | omega); (case zqn0 => first | with_reducible assumption | omega); (case zqn1 => first | with_reducible assumption | omega)); intro _ _ _ _ _ _ _ _ _ _ zhP; have _ := zhP.1; have _ := zhP.2; clear zhP; clear kFq kNq) | (refine goOn ?_; k_here; (with_reducible show wpAny _ _ (PySem.call (Value.ref 102) _) _ _ _); (with_reducible rename Fr _ _ _ _ => kFq); (with_reducible rename News _ _ _ _ => kNq); k_dflt (refine' useList (c_put_together ⟨?zqgx, ?zqgt⟩ kFq.keep ?zqhl ?zqhl2 ?zqhl3 ?zqhi ?zqhi2 ?zqhi3 ?zqhn ?zqhn2 ?zqhn3 ?zqs0 ?zqs1 ?zqw0 ?zqw1 ?zqr1 ?zqr2 ?zqr3) kFq kNq rfl (by first | exact Nat.le_of_ble_eq_true rfl | (dsimp only [Ar]; omega)) (by first | exact Nat.le_of_ble_eq_true rfl | (dsimp only [Ar]; omega)) ?_; (case zqgx => with_reducible assumption); (case zqgt => with_reducible assumption); (case zqhl => first | exact Fr.lst kFq (by with_reducible assumption) | exact News.isList kNq (by k_mem)); (case zqhl2 => first | exact Fr.lst kFq (by with_reducible assumption) | exact News.isList kNq (by k_mem)); (case zqhl3 => first | exact Fr.lst kFq (by with_reducible assumption) | exact News.isList kNq (by k_mem)); (case zqhi => with_reducible assumption); (case zqhi2 => with_reducible assumption); (case zqhi3 => with_reducible assumption); (case zqhn => first | with_reducible assumption | exact Nat.le_trans (by with_reducible assumption) (Nat.le_of_ble_eq_true rfl) | exact le_max3 (by with_reducible assumption) (by with_reducible assumption) (by with_reducible assumption) (by with_reducible assumption) rfl | omega | (simp only [List.length_take, List.length_drop, List.length_append, List.length_cons, List.length_nil]; omega)); (case zqhn2 => first | with_reducible assumption | exact Nat.le_trans (by with_reducible assumption) (Nat.le_of_ble_eq_true rfl) | exact le_max3 (by with_reducible assumption) (by with_reducible assumption) (by with_reducible assumption) (by with_reducible assumption) rfl | omega | (simp only [List.length_take, List.length_drop, List.length_append, List.length_cons, List.length_nil]; omega)); (case zqhn3 => first | with_reducible assumption | exact Nat.le_trans (by with_reducible assumption) (Nat.le_of_ble_eq_true rfl) | exact le_max3 (by with_reducible assumption) (by with_reducible assumption) (by with_reducible assumption) (by with_reducible assumption) rfl | omega | (simp only [List.length_take, List.length_drop, List.length_append, List.length_cons, List.length_nil]; omega)); (case zqs0 => first | with_reducible assumption | omega | (simp only [List.length_take, List.length_drop, List.length_append, List.length_cons, List.length_nil]; omega)); (case zqs1 => first | with_reducible assumption | omega | (simp only [List.length_take, List.length_drop, List.length_append, List.length_cons, List.length_nil]; omega)); (case zqw0 => first | with_reducible assumption | omega | (simp only [List.length_take, List.length_drop, List.length_append, List.length_cons, List.length_nil]; omega)); (case zqw1 => first | with_reducible assumption | omega | (simp only [List.length_take, List.length_drop, List.length_append, List.length_cons, List.length_nil]; omega)); (case zqr1 => with_reducible assumption); (case zqr2 => with_reducible assumption); (case zqr3 => with_reducible assumption)); intro _ _ _ _ _ _ _ _ _ _ zhP; have _ := zhP.1; have _ := zhP.2.1; have _ := zhP.2.2; clear zhP; clear kFq kNq) | (refine goOn ?_; k_here; (with_reducible show wpAny _ _ (PySem.call (Value.ref 109) _) _ _ _); (with_reducible rename Fr _ _ _ _ => kFq); (with_reducible rename News _ _ _ _ => kNq); k_dflt (refine' useList (c_middle_of ⟨?zqgx, ?zqgt⟩ kFq.keep ?zqhl ?zqhl2 ?zqhl3 ?zqhi ?zqhi2 ?zqhi3 ?zqhn ?zqhn2 ?zqhn3 ?zqw0 ?zqw1 ?zqr1 ?zqr2 ?zqr3 ?zqge) kFq kNq rfl (by first | exact Nat.le_of_ble_eq_true rfl | (dsimp only [Ar]; omega)) (by first | exact Nat.le_of_ble_eq_true rfl | (dsimp only [Ar]; omega)) ?_; (case zqgx => with_reducible assumption); (case zqgt => with_reducible assumption); (case zqhl => first | exact Fr.lst kFq (by with_reducible assumption) | exact News.isList kNq (by k_mem)); (case zqhl2 => first | exact Fr.lst kFq (by with_reducible assumption) | exact News.isList kNq (by k_mem)); (case zqhl3 => first | exact Fr.lst kFq (by with_reducible assumption) | exact News.isList kNq (by k_mem)); (case zqhi => with_reducible assumption); (case zqhi2 => with_reducible assumption); (case zqhi3 => with_reducible assumption); (case zqhn => first | with_reducible assumption | exact Nat.le_trans (by with_reducible assumption) (Nat.le_of_ble_eq_true rfl) | omega | (simp only [List.length_take, List.length_drop, List.length_append, List.length_cons, List.length_nil]; omega)); (case zqhn2 => first | with_reducible assumption | exact Nat.le_trans (by with_reducible assumption) (Nat.le_of_ble_eq_true rfl) | omega | (simp only [List.length_take, List.length_drop, List.length_append, List.length_cons, List.length_nil]; omega)); (case zqhn3 => first | with_reducible assumption | exact Nat.le_trans (by with_reducible assumption) (Nat.le_of_ble_eq_true rfl) | omega | (simp only [List.length_take, List.length_drop, List.length_append, List.length_cons, List.length_nil]; omega)); (case zqw0 => first | with_reducible assumption | omega | (simp only [List.length_take, List.length_drop, List.length_append, List.length_cons, List.length_nil]; omega)); (case zqw1 => first | with_reducible assumption | omega | (simp only [List.length_take, List.length_drop, List.length_append, List.length_cons, List.length_nil]; omega)); (case zqr1 => with_reducible assumption); (case zqr2 => with_reducible assumption); (case zqr3 => with_reducible assumption); (case zqge => first | with_reducible assumption | (intro _; omega) | (intro hb0; cases hb0))); intro _ _ _ _ _ _ _ _ _ _ zhP; have _ := zhP.1; have _ := zhP.2.1; have _ := zhP.2.2; clear zhP; clear kFq kNq) | (refine goOn ?_; k_dflt (refine' kmk_slice_ints ?zqF ?zqN ?zql ?zqp ?zqq ?zqi ?zqm rfl ?_ ?zqs ?zqt ?zqz; (case zqF => k_asm); (case zqN => k_asm); (case zql => first | exact Fr.lst (by assumption) (by assumption) | exact News.isList (by assumption) (by k_mem)); (case zqp => kmk_part); (case zqq => kmk_part); (case zqi => assumption); (case zqm => first | exact kmk_all (by assumption) | exact kmk_from (by assumption) (by first | assumption | omega) | exact kmk_upto (by assumption) (by first | assumption | omega) | exact kmk_run (by assumption) (by first | assumption | omega) (by first | assumption | omega)); (case zqs => with_unfolding_all rfl); (case zqt => kmk_pure); (case zqz => exact sz_ok (by assumption) (by omega))); intro _ _ _ _ _ zl1 _ zhC zhL; (try k_lt zl1); (try k_sweep); clear zhC zhL) | (refine goOn ?_; with_reducible rename Fr _ _ _ _ => kFq; with_reducible rename News _ _ _ _ => kNq; k_dflt (refine' appD kFq kNq ?zqo ?zqz ?_; (case zqo => first | exact offOne (by assumption) | exact offNil | assumption); (case zqz => first | assumption | omega)); intro _ _ _; clear kFq kNq) | fail); (try k_steps))
            · rename _ ≠ _ => hne
              exact absurd rfl hne
            · exact noPost_of fun _ _ q => q
          · intro D8 n8 h8' tk8' hD8 hD8' hk8
            have k8 : Kept [] _ h8' := fun c o _ q => hk8 c o q
            have kF8 := k8.fr kF fun _ z => nomatch z
            have kN8 : News _ _ h8' ((D8, listOf (List.toArray []) n8) :: _) := fun q hq => (List.mem_cons.mp hq).elim (fun e => by rw [e]; exact new_at kF hD8 hD8') fun hq => (k8.news kN fun _ _ z => nomatch z) q hq
            clear kF kN k8
            k_steps
            repeat' ((first | (refine goOn ?_; k_here; (with_reducible show wpAny _ _ (PySem.call (Value.ref 135) _) _ _ _); (with_reducible rename Fr _ _ _ _ => kFq); (with_reducible rename News _ _ _ _ => kNq); k_dflt (refine' usePool (c_law_pool ⟨?zqgx, ?zqgt⟩ kFq.keep ?zqhl ?zqhi ?zqhn) kFq kNq rfl (by first | exact Nat.le_of_ble_eq_true rfl | (dsimp only [Ar]; omega)) (by first | exact Nat.le_of_ble_eq_true rfl | (dsimp only [Ar]; omega)) ?_; (case zqgx => with_reducible assumption); (case zqgt => with_reducible assumption); (case zqhl => first | exact Fr.lst kFq (by assumption) | exact News.isList kNq (by k_mem)); (case zqhi => with_reducible assumption); (case zqhn => first | with_reducible assumption | exact Nat.le_trans (by with_reducible assumption) (Nat.le_of_ble_eq_true rfl) | omega)); intro _ _ _ _ _ _ _ _ _ _ _ _ _ _ _ _; clear kFq kNq) | (refine goOn ?_; k_here; (with_reducible show wpAny _ _ (PySem.call (Value.ref 130) _) _ _ _); (with_reducible rename Fr _ _ _ _ => kFq); (with_reducible rename News _ _ _ _ => kNq); k_dflt (refine' useDraw (c_law_draw ⟨?zqgx, ?zqgt⟩ kFq.keep ?zqhP ?zqhO ?zqhJP ?zqhJ ?zqhi ?zqhn ?zqhPb ?zqhm) kFq kNq ?zqU rfl (by first | exact Nat.le_of_ble_eq_true rfl | (dsimp only [Ar]; omega)) (by first | exact Nat.le_of_ble_eq_true rfl | (dsimp only [Ar]; omega)) ?_; (case zqgx => with_reducible assumption); (case zqgt => with_reducible assumption); (case zqhP => exact (kNq (_, _) (by k_mem)).1); (case zqhPb => exact (kNq (_, _) (by k_mem)).2.2); (case zqhO => with_reducible assumption); (case zqhJP => with_reducible assumption); (case zqhJ => first | exact Fr.lst kFq (by assumption) | exact News.isList kNq (by k_mem)); (case zqhi => with_reducible assumption); (case zqhn => first | with_reducible assumption | exact Nat.le_trans (by with_reducible assumption) (Nat.le_of_ble_eq_true rfl) | omega); (case zqhm => first | with_reducible assumption | omega); (case zqU => k_updF)); intro _ _ _ _ _ _ kNn; (try dsimp only [List.append] at kNn); revert kNn; intro _ _ _ _; clear kFq kNq) | (refine goOn ?_; k_here; (with_reducible show wpAny _ _ (PySem.call (Value.ref 154) _) _ _ _); (with_reducible rename Fr _ _ _ _ => kFq); (with_reducible rename News _ _ _ _ => kNq); k_dflt (refine' useDraw (c_law_number ⟨?zqgx, ?zqgt⟩ kFq.keep ?zqhP ?zqhO ?zqhJP ?zqhJ ?zqhi ?zqhn ?zqhPb ?zqw0 ?zqw1 ?zqm0 ?zqm1) kFq kNq ?zqU rfl (by first | exact Nat.le_of_ble_eq_true rfl | (dsimp only [Ar]; omega)) (by first | exact Nat.le_of_ble_eq_true rfl | (dsimp only [Ar]; omega)) ?_; (case zqgx => with_reducible assumption); (case zqgt => with_reducible assumption); (case zqhP => exact (kNq (_, _) (by k_mem)).1); (case zqhPb => exact (kNq (_, _) (by k_mem)).2.2); (case zqhO => with_reducible assumption); (case zqhJP => with_reducible assumption); (case zqhJ => first | exact Fr.lst kFq (by assumption) | exact News.isList kNq (by k_mem)); (case zqhi => with_reducible assumption); (case zqhn => first | with_reducible assumption | exact Nat.le_trans (by with_reducible assumption) (Nat.le_of_ble_eq_true rfl) | omega); (case zqw0 => first | with_reducible assumption | omega); (case zqw1 => first | with_reducible assumption | omega); (case zqm0 => first | with_reducible assumption | omega); (case zqm1 => first | with_reducible assumption | omega); (case zqU => k_updF)); intro _ _ _ _ _ _ kNn; (try dsimp only [List.append] at kNn); revert kNn; intro _ _ _ _; clear kFq kNq) | (refine goOn ?_; k_here; (with_reducible show wpAny _ _ (PySem.call (Value.ref 142) _) _ _ _); (with_reducible rename Fr _ _ _ _ => kFq); (with_reducible rename News _ _ _ _ => kNq); k_dflt (refine' useList (c_law_row ⟨?zqgx, ?zqgt⟩ kFq.keep ?zqw0 ?zqw1 ?zqn0 ?zqn1) kFq kNq rfl (by first | exact Nat.le_of_ble_eq_true rfl | (dsimp only [Ar]; omega)) (by first | exact Nat.le_of_ble_eq_true rfl | (dsimp only [Ar]; omega)) ?_; (case zqgx => with_reducible assumption); (case zqgt => with_reducible assumption); (case zqw0 => first | with_reducible assumption | omega); (case zqw1 => first | with_reducible assumption | omega); (case zqn0 => first | with_reducible assumption | omega); (case zqn1 => first | with_reducible assumption | omega)); intro _ _ _ _ _ _ _ _ _ _ zhP; have _ := zhP.1; have _ := zhP.2; clear zhP; clear kFq kNq) | (refine goOn ?_; k_here; (with_reducible show wpAny _ _ (PySem.call (Value.ref 102) _) _ _ _); (with_reducible rename Fr _ _ _ _ => kFq); (with_reducible rename News _ _ _ _ => kNq); k_dflt (refine' useList (c_put_together ⟨?zqgx, ?zqgt⟩ kFq.keep ?zqhl ?zqhl2 ?zqhl3 ?zqhi ?zqhi2 ?zqhi3 ?zqhn ?zqhn2 ?zqhn3 ?zqs0 ?zqs1 ?zqw0 ?zqw1 ?zqr1 ?zqr2 ?zqr3) kFq kNq rfl (by first | exact Nat.le_of_ble_eq_true rfl | (dsimp only [Ar]; omega)) (by first | exact Nat.le_of_ble_eq_true rfl | (dsimp only [Ar]; omega)) ?_; (case zqgx => with_reducible assumption); (case zqgt => with_reducible assumption); (case zqhl => first | exact Fr.lst kFq (by with_reducible assumption) | exact News.isList kNq (by k_mem)); (case zqhl2 => first | exact Fr.lst kFq (by with_reducible assumption) | exact News.isList kNq (by k_mem)); (case zqhl3 => first | exact Fr.lst kFq (by with_reducible assumption) | exact News.isList kNq (by k_mem)); (case zqhi => with_reducible assumption); (case zqhi2 => with_reducible assumption); (case zqhi3 => with_reducible assumption); (case zqhn => first | with_reducible assumption | exact Nat.le_trans (by with_reducible assumption) (Nat.le_of_ble_eq_true rfl) | exact le_max3 (by with_reducible assumption) (by with_reducible assumption) (by with_reducible assumption) (by with_reducible assumption) rfl | omega | (simp only [List.length_take, List.length_drop, List.length_append, List.length_cons, List.length_nil]; omega)); (case zqhn2 => first | with_reducible assumption | exact Nat.le_trans (by with_reducible assumption) (Nat.le_of_ble_eq_true rfl) | exact le_max3 (by with_reducible assumption) (by with_reducible assumption) (by with_reducible assumption) (by with_reducible assumption) rfl | omega | (simp only [List.length_take, List.length_drop, List.length_append, List.length_cons, List.length_nil]; omega)); (case zqhn3 => first | with_reducible assumption | exact Nat.le_trans (by with_reducible assumption) (Nat.le_of_ble_eq_true rfl) | exact le_max3 (by with_reducible assumption) (by with_reducible assumption) (by with_reducible assumption) (by with_reducible assumption) rfl | omega | (simp only [List.length_take, List.length_drop, List.length_append, List.length_cons, List.length_nil]; omega)); (case zqs0 => first | with_reducible assumption | omega | (simp only [List.length_take, List.length_drop, List.length_append, List.length_cons, List.length_nil]; omega)); (case zqs1 => first | with_reducible assumption | omega | (simp only [List.length_take, List.length_drop, List.length_append, List.length_cons, List.length_nil]; omega)); (case zqw0 => first | with_reducible assumption | omega | (simp only [List.length_take, List.length_drop, List.length_append, List.length_cons, List.length_nil]; omega)); (case zqw1 => first | with_reducible assumption | omega | (simp only [List.length_take, List.length_drop, List.length_append, List.length_cons, List.length_nil]; omega)); (case zqr1 => with_reducible assumption); (case zqr2 => with_reducible assumption); (case zqr3 => with_reducible assumption)); intro _ _ _ _ _ _ _ _ _ _ zhP; have _ := zhP.1; have _ := zhP.2.1; have _ := zhP.2.2; clear zhP; clear kFq kNq) | (refine goOn ?_; k_here; (with_reducible show wpAny _ _ (PySem.call (Value.ref 109) _) _ _ _); (with_reducible rename Fr _ _ _ _ => kFq); (with_reducible rename News _ _ _ _ => kNq); k_dflt (refine' useList (c_middle_of ⟨?zqgx, ?zqgt⟩ kFq.keep ?zqhl ?zqhl2 ?zqhl3 ?zqhi ?zqhi2 ?zqhi3 ?zqhn ?zqhn2 ?zqhn3 ?zqw0 ?zqw1 ?zqr1 ?zqr2 ?zqr3 ?zqge) kFq kNq rfl (by first | exact Nat.le_of_ble_eq_true rfl | (dsimp only [Ar]; omega)) (by first | exact Nat.le_of_ble_eq_true rfl | (dsimp only [Ar]; omega)) ?_; (case zqgx => with_reducible assumption); (case zqgt => with_reducible assumption); (case zqhl => first | exact Fr.lst kFq (by with_reducible assumption) | exact News.isList kNq (by k_mem)); (case zqhl2 => first | exact Fr.lst kFq (by with_reducible assumption) | exact News.isList kNq (by k_mem)); (case zqhl3 => first | exact Fr.lst kFq (by with_reducible assumption) | exact News.isList kNq (by k_mem)); (case zqhi => with_reducible assumption); (case zqhi2 => with_reducible assumption); (case zqhi3 => with_reducible assumption); (case zqhn => first | with_reducible assumption | exact Nat.le_trans (by with_reducible assumption) (Nat.le_of_ble_eq_true rfl) | omega | (simp only [List.length_take, List.length_drop, List.length_append, List.length_cons, List.length_nil]; omega)); (case zqhn2 => first | with_reducible assumption | exact Nat.le_trans (by with_reducible assumption) (Nat.le_of_ble_eq_true rfl) | omega | (simp only [List.length_take, List.length_drop, List.length_append, List.length_cons, List.length_nil]; omega)); (case zqhn3 => first | with_reducible assumption | exact Nat.le_trans (by with_reducible assumption) (Nat.le_of_ble_eq_true rfl) | omega | (simp only [List.length_take, List.length_drop, List.length_append, List.length_cons, List.length_nil]; omega)); (case zqw0 => first | with_reducible assumption | omega | (simp only [List.length_take, List.length_drop, List.length_append, List.length_cons, List.length_nil]; omega)); (case zqw1 => first | with_reducible assumption | omega | (simp only [List.length_take, List.length_drop, List.length_append, List.length_cons, List.length_nil]; omega)); (case zqr1 => with_reducible assumption); (case zqr2 => with_reducible assumption); (case zqr3 => with_reducible assumption); (case zqge => first | with_reducible assumption | (intro _; omega) | (intro hb0; cases hb0))); intro _ _ _ _ _ _ _ _ _ _ zhP; have _ := zhP.1; have _ := zhP.2.1; have _ := zhP.2.2; clear zhP; clear kFq kNq) | (refine goOn ?_; k_dflt (refine' kmk_slice_ints ?zqF ?zqN ?zql ?zqp ?zqq ?zqi ?zqm rfl ?_ ?zqs ?zqt ?zqz; (case zqF => k_asm); (case zqN => k_asm); (case zql => first | exact Fr.lst (by assumption) (by assumption) | exact News.isList (by assumption) (by k_mem)); (case zqp => kmk_part); (case zqq => kmk_part); (case zqi => assumption); (case zqm => first | exact kmk_all (by assumption) | exact kmk_from (by assumption) (by first | assumption | omega) | exact kmk_upto (by assumption) (by first | assumption | omega) | exact kmk_run (by assumption) (by first | assumption | omega) (by first | assumption | omega)); (case zqs => with_unfolding_all rfl); (case zqt => kmk_pure); (case zqz => exact sz_ok (by assumption) (by omega))); intro _ _ _ _ _ zl1 _ zhC zhL; (try k_lt zl1); (try k_sweep); clear zhC zhL) | (refine goOn ?_; with_reducible rename Fr _ _ _ _ => kFq; with_reducible rename News _ _ _ _ => kNq; k_dflt (refine' appD kFq kNq ?zqo ?zqz ?_; (case zqo => first | exact offOne (by assumption) | exact offNil | assumption); (case zqz => first | assumption | omega)); intro _ _ _; clear kFq kNq) | fail); (try k_steps))
            rename Fr _ _ _ _ => kF
            rename News _ _ _ _ => kN
            exact CutR.one kF (kst_newsOf kN (List.forall_mem_cons.mpr ⟨by k_mem, List.forall_mem_cons.mpr ⟨by k_mem, List.forall_mem_cons.mpr ⟨by k_mem, List.forall_mem_cons.mpr ⟨by k_mem, List.forall_mem_cons.mpr ⟨by k_mem, List.forall_mem_cons.mpr ⟨by k_mem, List.forall_mem_cons.mpr ⟨by k_mem, List.forall_mem_nil _⟩⟩⟩⟩⟩⟩⟩))
        · rename ¬ _ = _ => hc
          rename val _ _ = one * other => hV8
          rename Row _ _ => hR8
          exact absurd (Row.inj hB1 hR7 hR8 (by rw [hV7, hV8, hVa, hVb])) hc
    · clear kF kN
      intro h9 tk9 u9 ps3 kF kN
      k_steps
      repeat' ((first | (refine goOn ?_; k_here; (with_reducible show wpAny _ _ (PySem.call (Value.ref 135) _) _ _ _); (with_reducible rename Fr _ _ _ _ => kFq); (with_reducible rename News _ _ _ _ => kNq); k_dflt (refine' usePool (c_law_pool ⟨?zqgx, ?zqgt⟩ kFq.keep ?zqhl ?zqhi ?zqhn) kFq kNq rfl (by first | exact Nat.le_of_ble_eq_true rfl | (dsimp only [Ar]; omega)) (by first | exact Nat.le_of_ble_eq_true rfl | (dsimp only [Ar]; omega)) ?_; (case zqgx => with_reducible assumption); (case zqgt => with_reducible assumption); (case zqhl => first | exact Fr.lst kFq (by assumption) | exact News.isList kNq (by k_mem)); (case zqhi => with_reducible assumption); (case zqhn => first | with_reducible assumption | exact Nat.le_trans (by with_reducible assumption) (Nat.le_of_ble_eq_true rfl) | omega)); intro _ _ _ _ _ _ _ _ _ _ _ _ _ _ _ _; clear kFq kNq) | (refine goOn ?_; k_here; (with_reducible show wpAny _ _ (PySem.call (Value.ref 130) _) _ _ _); (with_reducible rename Fr _ _ _ _ => kFq); (with_reducible rename News _ _ _ _ => kNq); k_dflt (refine' useDraw (c_law_draw ⟨?zqgx, ?zqgt⟩ kFq.keep ?zqhP ?zqhO ?zqhJP ?zqhJ ?zqhi ?zqhn ?zqhPb ?zqhm) kFq kNq ?zqU rfl (by first | exact Nat.le_of_ble_eq_true rfl | (dsimp only [Ar]; omega)) (by first | exact Nat.le_of_ble_eq_true rfl | (dsimp only [Ar]; omega)) ?_; (case zqgx => with_reducible assumption); (case zqgt => with_reducible assumption); (case zqhP => exact (kNq (_, _) (by k_mem)).1); (case zqhPb => exact (kNq (_, _) (by k_mem)).2.2); (case zqhO => with_reducible assumption); (case zqhJP => with_reducible assumption); (case zqhJ => first | exact Fr.lst kFq (by assumption) | exact News.isList kNq (by k_mem)); (case zqhi => with_reducible assumption); (case zqhn => first | with_reducible assumption | exact Nat.le_trans (by with_reducible assumption) (Nat.le_of_ble_eq_true rfl) | omega); (case zqhm => first | with_reducible assumption | omega); (case zqU => k_updF)); intro _ _ _ _ _ _ kNn; (try dsimp only [List.append] at kNn); revert kNn; intro _ _ _ _; clear kFq kNq) | (refine goOn ?_; k_here; (with_reducible show wpAny _ _ (PySem.call (Value.ref 154) _) _ _ _); (with_reducible rename Fr _ _ _ _ => kFq); (with_reducible rename News _ _ _ _ => kNq); k_dflt (refine' useDraw (c_law_number ⟨?zqgx, ?zqgt⟩ kFq.keep ?zqhP ?zqhO ?zqhJP ?zqhJ ?zqhi ?zqhn ?zqhPb ?zqw0 ?zqw1 ?zqm0 ?zqm1) kFq kNq ?zqU rfl (by first | exact Nat.le_of_ble_eq_true rfl | (dsimp only [Ar]; omega)) (by first | exact Nat.le_of_ble_eq_true rfl | (dsimp only [Ar]; omega)) ?_; (case zqgx => with_reducible assumption); (case zqgt => with_reducible assumption); (case zqhP => exact (kNq (_, _) (by k_mem)).1); (case zqhPb => exact (kNq (_, _) (by k_mem)).2.2); (case zqhO => with_reducible assumption); (case zqhJP => with_reducible assumption); (case zqhJ => first | exact Fr.lst kFq (by assumption) | exact News.isList kNq (by k_mem)); (case zqhi => with_reducible assumption); (case zqhn => first | with_reducible assumption | exact Nat.le_trans (by with_reducible assumption) (Nat.le_of_ble_eq_true rfl) | omega); (case zqw0 => first | with_reducible assumption | omega); (case zqw1 => first | with_reducible assumption | omega); (case zqm0 => first | with_reducible assumption | omega); (case zqm1 => first | with_reducible assumption | omega); (case zqU => k_updF)); intro _ _ _ _ _ _ kNn; (try dsimp only [List.append] at kNn); revert kNn; intro _ _ _ _; clear kFq kNq) | (refine goOn ?_; k_here; (with_reducible show wpAny _ _ (PySem.call (Value.ref 142) _) _ _ _); (with_reducible rename Fr _ _ _ _ => kFq); (with_reducible rename News _ _ _ _ => kNq); k_dflt (refine' useList (c_law_row ⟨?zqgx, ?zqgt⟩ kFq.keep ?zqw0 ?zqw1 ?zqn0 ?zqn1) kFq kNq rfl (by first | exact Nat.le_of_ble_eq_true rfl | (dsimp only [Ar]; omega)) (by first | exact Nat.le_of_ble_eq_true rfl | (dsimp only [Ar]; omega)) ?_; (case zqgx => with_reducible assumption); (case zqgt => with_reducible assumption); (case zqw0 => first | with_reducible assumption | omega); (case zqw1 => first | with_reducible assumption | omega); (case zqn0 => first | with_reducible assumption | omega); (case zqn1 => first | with_reducible assumption | omega)); intro _ _ _ _ _ _ _ _ _ _ zhP; have _ := zhP.1; have _ := zhP.2; clear zhP; clear kFq kNq) | (refine goOn ?_; k_here; (with_reducible show wpAny _ _ (PySem.call (Value.ref 102) _) _ _ _); (with_reducible rename Fr _ _ _ _ => kFq); (with_reducible rename News _ _ _ _ => kNq); k_dflt (refine' useList (c_put_together ⟨?zqgx, ?zqgt⟩ kFq.keep ?zqhl ?zqhl2 ?zqhl3 ?zqhi ?zqhi2 ?zqhi3 ?zqhn ?zqhn2 ?zqhn3 ?zqs0 ?zqs1 ?zqw0 ?zqw1 ?zqr1 ?zqr2 ?zqr3) kFq kNq rfl (by first | exact Nat.le_of_ble_eq_true rfl | (dsimp only [Ar]; omega)) (by first | exact Nat.le_of_ble_eq_true rfl | (dsimp only [Ar]; omega)) ?_; (case zqgx => with_reducible assumption); (case zqgt => with_reducible assumption); (case zqhl => first | exact Fr.lst kFq (by with_reducible assumption) | exact News.isList kNq (by k_mem)); (case zqhl2 => first | exact Fr.lst kFq (by with_reducible assumption) | exact News.isList kNq (by k_mem)); (case zqhl3 => first | exact Fr.lst kFq (by with_reducible assumption) | exact News.isList kNq (by k_mem)); (case zqhi => with_reducible assumption); (case zqhi2 => with_reducible assumption); (case zqhi3 => with_reducible assumption); (case zqhn => first | with_reducible assumption | exact Nat.le_trans (by with_reducible assumption) (Nat.le_of_ble_eq_true rfl) | exact le_max3 (by with_reducible assumption) (by with_reducible assumption) (by with_reducible assumption) (by with_reducible assumption) rfl | omega | (simp only [List.length_take, List.length_drop, List.length_append, List.length_cons, List.length_nil]; omega)); (case zqhn2 => first | with_reducible assumption | exact Nat.le_trans (by with_reducible assumption) (Nat.le_of_ble_eq_true rfl) | exact le_max3 (by with_reducible assumption) (by with_reducible assumption) (by with_reducible assumption) (by with_reducible assumption) rfl | omega | (simp only [List.length_take, List.length_drop, List.length_append, List.length_cons, List.length_nil]; omega)); (case zqhn3 => first | with_reducible assumption | exact Nat.le_trans (by with_reducible assumption) (Nat.le_of_ble_eq_true rfl) | exact le_max3 (by with_reducible assumption) (by with_reducible assumption) (by with_reducible assumption) (by with_reducible assumption) rfl | omega | (simp only [List.length_take, List.length_drop, List.length_append, List.length_cons, List.length_nil]; omega)); (case zqs0 => first | with_reducible assumption | omega | (simp only [List.length_take, List.length_drop, List.length_append, List.length_cons, List.length_nil]; omega)); (case zqs1 => first | with_reducible assumption | omega | (simp only [List.length_take, List.length_drop, List.length_append, List.length_cons, List.length_nil]; omega)); (case zqw0 => first | with_reducible assumption | omega | (simp only [List.length_take, List.length_drop, List.length_append, List.length_cons, List.length_nil]; omega)); (case zqw1 => first | with_reducible assumption | omega | (simp only [List.length_take, List.length_drop, List.length_append, List.length_cons, List.length_nil]; omega)); (case zqr1 => with_reducible assumption); (case zqr2 => with_reducible assumption); (case zqr3 => with_reducible assumption)); intro _ _ _ _ _ _ _ _ _ _ zhP; have _ := zhP.1; have _ := zhP.2.1; have _ := zhP.2.2; clear zhP; clear kFq kNq) | (refine goOn ?_; k_here; (with_reducible show wpAny _ _ (PySem.call (Value.ref 109) _) _ _ _); (with_reducible rename Fr _ _ _ _ => kFq); (with_reducible rename News _ _ _ _ => kNq); k_dflt (refine' useList (c_middle_of ⟨?zqgx, ?zqgt⟩ kFq.keep ?zqhl ?zqhl2 ?zqhl3 ?zqhi ?zqhi2 ?zqhi3 ?zqhn ?zqhn2 ?zqhn3 ?zqw0 ?zqw1 ?zqr1 ?zqr2 ?zqr3 ?zqge) kFq kNq rfl (by first | exact Nat.le_of_ble_eq_true rfl | (dsimp only [Ar]; omega)) (by first | exact Nat.le_of_ble_eq_true rfl | (dsimp only [Ar]; omega)) ?_; (case zqgx => with_reducible assumption); (case zqgt => with_reducible assumption); (case zqhl => first | exact Fr.lst kFq (by with_reducible assumption) | exact News.isList kNq (by k_mem)); (case zqhl2 => first | exact Fr.lst kFq (by with_reducible assumption) | exact News.isList kNq (by k_mem)); (case zqhl3 => first | exact Fr.lst kFq (by with_reducible assumption) | exact News.isList kNq (by k_mem)); (case zqhi => with_reducible assumption); (case zqhi2 => with_reducible assumption); (case zqhi3 => with_reducible assumption); (case zqhn => first | with_reducible assumption | exact Nat.le_trans (by with_reducible assumption) (Nat.le_of_ble_eq_true rfl) | omega | (simp only [List.length_take, List.length_drop, List.length_append, List.length_cons, List.length_nil]; omega)); (case zqhn2 => first | with_reducible assumption | exact Nat.le_trans (by with_reducible assumption) (Nat.le_of_ble_eq_true rfl) | omega | (simp only [List.length_take, List.length_drop, List.length_append, List.length_cons, List.length_nil]; omega)); (case zqhn3 => first | with_reducible assumption | exact Nat.le_trans (by with_reducible assumption) (Nat.le_of_ble_eq_true rfl) | omega | (simp only [List.length_take, List.length_drop, List.length_append, List.length_cons, List.length_nil]; omega)); (case zqw0 => first | with_reducible assumption | omega | (simp only [List.length_take, List.length_drop, List.length_append, List.length_cons, List.length_nil]; omega)); (case zqw1 => first | with_reducible assumption | omega | (simp only [List.length_take, List.length_drop, List.length_append, List.length_cons, List.length_nil]; omega)); (case zqr1 => with_reducible assumption); (case zqr2 => with_reducible assumption); (case zqr3 => with_reducible assumption); (case zqge => first | with_reducible assumption | (intro _; omega) | (intro hb0; cases hb0))); intro _ _ _ _ _ _ _ _ _ _ zhP; have _ := zhP.1; have _ := zhP.2.1; have _ := zhP.2.2; clear zhP; clear kFq kNq) | (refine goOn ?_; k_dflt (refine' kmk_slice_ints ?zqF ?zqN ?zql ?zqp ?zqq ?zqi ?zqm rfl ?_ ?zqs ?zqt ?zqz; (case zqF => k_asm); (case zqN => k_asm); (case zql => first | exact Fr.lst (by assumption) (by assumption) | exact News.isList (by assumption) (by k_mem)); (case zqp => kmk_part); (case zqq => kmk_part); (case zqi => assumption); (case zqm => first | exact kmk_all (by assumption) | exact kmk_from (by assumption) (by first | assumption | omega) | exact kmk_upto (by assumption) (by first | assumption | omega) | exact kmk_run (by assumption) (by first | assumption | omega) (by first | assumption | omega)); (case zqs => with_unfolding_all rfl); (case zqt => kmk_pure); (case zqz => exact sz_ok (by assumption) (by omega))); intro _ _ _ _ _ zl1 _ zhC zhL; (try k_lt zl1); (try k_sweep); clear zhC zhL) | (refine goOn ?_; with_reducible rename Fr _ _ _ _ => kFq; with_reducible rename News _ _ _ _ => kNq; k_dflt (refine' appD kFq kNq ?zqo ?zqz ?_; (case zqo => first | exact offOne (by assumption) | exact offNil | assumption); (case zqz => first | assumption | omega)); intro _ _ _; clear kFq kNq) | fail); (try k_steps))
      unfold Stop
      rename Fr _ _ _ _ => kF
      rename News _ _ _ _ => kN
      rename_i sr tsr o5 h5 tk5 hO5 hs0 hs1 Dq hq lq hA2 F5o N5o hK2 hC2 hD2
      clear F5o N5o
      obtain ⟨hf, hhf⟩ : ∃ hf : Int, hf = (2 ^ wv.toNat) ^ (1 + sr).toNat := ⟨_, rfl⟩
      simp only [← hhf] at kF ⊢
      have zq := half_facts hB1 hB2 hhf hs0 hs1
      have hf1 := zq.1
      have hf2 := zq.2.1
      have hf3 := zq.2.2
      clear zq
      have hf6 : 0 ≤ hf := Int.le_trans (by decide) hf1
      have hf7 : hf ≠ 0 := Int.ne_of_gt hf1
      have hf8 : -2 ^ 64 < hf := Int.lt_of_lt_of_le (by decide) hf6
      have hf9 : hf < 2 ^ 64 := Int.lt_of_le_of_lt hf2 (by decide)
      have hf4 := sq_ge hf1
      have hf5 := sq_le hf1 hf2
      k_steps
      repeat' ((first | (refine goOn ?_; k_here; (with_reducible show wpAny _ _ (PySem.call (Value.ref 135) _) _ _ _); (with_reducible rename Fr _ _ _ _ => kFq); (with_reducible rename News _ _ _ _ => kNq); k_dflt (refine' usePool (c_law_pool ⟨?zqgx, ?zqgt⟩ kFq.keep ?zqhl ?zqhi ?zqhn) kFq kNq rfl (by first | exact Nat.le_of_ble_eq_true rfl | (dsimp only [Ar]; omega)) (by first | exact Nat.le_of_ble_eq_true rfl | (dsimp only [Ar]; omega)) ?_; (case zqgx => with_reducible assumption); (case zqgt => with_reducible assumption); (case zqhl => first | exact Fr.lst kFq (by assumption) | exact News.isList kNq (by k_mem)); (case zqhi => with_reducible assumption); (case zqhn => first | with_reducible assumption | exact Nat.le_trans (by with_reducible assumption) (Nat.le_of_ble_eq_true rfl) | omega)); intro _ _ _ _ _ _ _ _ _ _ _ _ _ _ _ _; clear kFq kNq) | (refine goOn ?_; k_here; (with_reducible show wpAny _ _ (PySem.call (Value.ref 130) _) _ _ _); (with_reducible rename Fr _ _ _ _ => kFq); (with_reducible rename News _ _ _ _ => kNq); k_dflt (refine' useDraw (c_law_draw ⟨?zqgx, ?zqgt⟩ kFq.keep ?zqhP ?zqhO ?zqhJP ?zqhJ ?zqhi ?zqhn ?zqhPb ?zqhm) kFq kNq ?zqU rfl (by first | exact Nat.le_of_ble_eq_true rfl | (dsimp only [Ar]; omega)) (by first | exact Nat.le_of_ble_eq_true rfl | (dsimp only [Ar]; omega)) ?_; (case zqgx => with_reducible assumption); (case zqgt => with_reducible assumption); (case zqhP => exact (kNq (_, _) (by k_mem)).1); (case zqhPb => exact (kNq (_, _) (by k_mem)).2.2); (case zqhO => with_reducible assumption); (case zqhJP => with_reducible assumption); (case zqhJ => first | exact Fr.lst kFq (by assumption) | exact News.isList kNq (by k_mem)); (case zqhi => with_reducible assumption); (case zqhn => first | with_reducible assumption | exact Nat.le_trans (by with_reducible assumption) (Nat.le_of_ble_eq_true rfl) | omega); (case zqhm => first | with_reducible assumption | omega); (case zqU => k_updF)); intro _ _ _ _ _ _ kNn; (try dsimp only [List.append] at kNn); revert kNn; intro _ _ _ _; clear kFq kNq) | (refine goOn ?_; k_here; (with_reducible show wpAny _ _ (PySem.call (Value.ref 154) _) _ _ _); (with_reducible rename Fr _ _ _ _ => kFq); (with_reducible rename News _ _ _ _ => kNq); k_dflt (refine' useDraw (c_law_number ⟨?zqgx, ?zqgt⟩ kFq.keep ?zqhP ?zqhO ?zqhJP ?zqhJ ?zqhi ?zqhn ?zqhPb ?zqw0 ?zqw1 ?zqm0 ?zqm1) kFq kNq ?zqU rfl (by first | exact Nat.le_of_ble_eq_true rfl | (dsimp only [Ar]; omega)) (by first | exact Nat.le_of_ble_eq_true rfl | (dsimp only [Ar]; omega)) ?_; (case zqgx => with_reducible assumption); (case zqgt => with_reducible assumption); (case zqhP => exact (kNq (_, _) (by k_mem)).1); (case zqhPb => exact (kNq (_, _) (by k_mem)).2.2); (case zqhO => with_reducible assumption); (case zqhJP => with_reducible assumption); (case zqhJ => first | exact Fr.lst kFq (by assumption) | exact News.isList kNq (by k_mem)); (case zqhi => with_reducible assumption); (case zqhn => first | with_reducible assumption | exact Nat.le_trans (by with_reducible assumption) (Nat.le_of_ble_eq_true rfl) | omega); (case zqw0 => first | with_reducible assumption | omega); (case zqw1 => first | with_reducible assumption | omega); (case zqm0 => first | with_reducible assumption | omega); (case zqm1 => first | with_reducible assumption | omega); (case zqU => k_updF)); intro _ _ _ _ _ _ kNn; (try dsimp only [List.append] at kNn); revert kNn; intro _ _ _ _; clear kFq kNq) | (refine goOn ?_; k_here; (with_reducible show wpAny _ _ (PySem.call (Value.ref 142) _) _ _ _); (with_reducible rename Fr _ _ _ _ => kFq); (with_reducible rename News _ _ _ _ => kNq); k_dflt (refine' useList (c_law_row ⟨?zqgx, ?zqgt⟩ kFq.keep ?zqw0 ?zqw1 ?zqn0 ?zqn1) kFq kNq rfl (by first | exact Nat.le_of_ble_eq_true rfl | (dsimp only [Ar]; omega)) (by first | exact Nat.le_of_ble_eq_true rfl | (dsimp only [Ar]; omega)) ?_; (case zqgx => with_reducible assumption); (case zqgt => with_reducible assumption); (case zqw0 => first | with_reducible assumption | omega); (case zqw1 => first | with_reducible assumption | omega); (case zqn0 => first | with_reducible assumption | omega); (case zqn1 => first | with_reducible assumption | omega)); intro _ _ _ _ _ _ _ _ _ _ zhP; have _ := zhP.1; have _ := zhP.2; clear zhP; clear kFq kNq) | (refine goOn ?_; k_here; (with_reducible show wpAny _ _ (PySem.call (Value.ref 102) _) _ _ _); (with_reducible rename Fr _ _ _ _ => kFq); (with_reducible rename News _ _ _ _ => kNq); k_dflt (refine' useList (c_put_together ⟨?zqgx, ?zqgt⟩ kFq.keep ?zqhl ?zqhl2 ?zqhl3 ?zqhi ?zqhi2 ?zqhi3 ?zqhn ?zqhn2 ?zqhn3 ?zqs0 ?zqs1 ?zqw0 ?zqw1 ?zqr1 ?zqr2 ?zqr3) kFq kNq rfl (by first | exact Nat.le_of_ble_eq_true rfl | (dsimp only [Ar]; omega)) (by first | exact Nat.le_of_ble_eq_true rfl | (dsimp only [Ar]; omega)) ?_; (case zqgx => with_reducible assumption); (case zqgt => with_reducible assumption); (case zqhl => first | exact Fr.lst kFq (by with_reducible assumption) | exact News.isList kNq (by k_mem)); (case zqhl2 => first | exact Fr.lst kFq (by with_reducible assumption) | exact News.isList kNq (by k_mem)); (case zqhl3 => first | exact Fr.lst kFq (by with_reducible assumption) | exact News.isList kNq (by k_mem)); (case zqhi => with_reducible assumption); (case zqhi2 => with_reducible assumption); (case zqhi3 => with_reducible assumption); (case zqhn => first | with_reducible assumption | exact Nat.le_trans (by with_reducible assumption) (Nat.le_of_ble_eq_true rfl) | exact le_max3 (by with_reducible assumption) (by with_reducible assumption) (by with_reducible assumption) (by with_reducible assumption) rfl | omega | (simp only [List.length_take, List.length_drop, List.length_append, List.length_cons, List.length_nil]; omega)); (case zqhn2 => first | with_reducible assumption | exact Nat.le_trans (by with_reducible assumption) (Nat.le_of_ble_eq_true rfl) | exact le_max3 (by with_reducible assumption) (by with_reducible assumption) (by with_reducible assumption) (by with_reducible assumption) rfl | omega | (simp only [List.length_take, List.length_drop, List.length_append, List.length_cons, List.length_nil]; omega)); (case zqhn3 => first | with_reducible assumption | exact Nat.le_trans (by with_reducible assumption) (Nat.le_of_ble_eq_true rfl) | exact le_max3 (by with_reducible assumption) (by with_reducible assumption) (by with_reducible assumption) (by with_reducible assumption) rfl | omega | (simp only [List.length_take, List.length_drop, List.length_append, List.length_cons, List.length_nil]; omega)); (case zqs0 => first | with_reducible assumption | omega | (simp only [List.length_take, List.length_drop, List.length_append, List.length_cons, List.length_nil]; omega)); (case zqs1 => first | with_reducible assumption | omega | (simp only [List.length_take, List.length_drop, List.length_append, List.length_cons, List.length_nil]; omega)); (case zqw0 => first | with_reducible assumption | omega | (simp only [List.length_take, List.length_drop, List.length_append, List.length_cons, List.length_nil]; omega)); (case zqw1 => first | with_reducible assumption | omega | (simp only [List.length_take, List.length_drop, List.length_append, List.length_cons, List.length_nil]; omega)); (case zqr1 => with_reducible assumption); (case zqr2 => with_reducible assumption); (case zqr3 => with_reducible assumption)); intro _ _ _ _ _ _ _ _ _ _ zhP; have _ := zhP.1; have _ := zhP.2.1; have _ := zhP.2.2; clear zhP; clear kFq kNq) | (refine goOn ?_; k_here; (with_reducible show wpAny _ _ (PySem.call (Value.ref 109) _) _ _ _); (with_reducible rename Fr _ _ _ _ => kFq); (with_reducible rename News _ _ _ _ => kNq); k_dflt (refine' useList (c_middle_of ⟨?zqgx, ?zqgt⟩ kFq.keep ?zqhl ?zqhl2 ?zqhl3 ?zqhi ?zqhi2 ?zqhi3 ?zqhn ?zqhn2 ?zqhn3 ?zqw0 ?zqw1 ?zqr1 ?zqr2 ?zqr3 ?zqge) kFq kNq rfl (by first | exact Nat.le_of_ble_eq_true rfl | (dsimp only [Ar]; omega)) (by first | exact Nat.le_of_ble_eq_true rfl | (dsimp only [Ar]; omega)) ?_; (case zqgx => with_reducible assumption); (case zqgt => with_reducible assumption); (case zqhl => first | exact Fr.lst kFq (by with_reducible assumption) | exact News.isList kNq (by k_mem)); (case zqhl2 => first | exact Fr.lst kFq (by with_reducible assumption) | exact News.isList kNq (by k_mem)); (case zqhl3 => first | exact Fr.lst kFq (by with_reducible assumption) | exact News.isList kNq (by k_mem)); (case zqhi => with_reducible assumption); (case zqhi2 => with_reducible assumption); (case zqhi3 => with_reducible assumption); (case zqhn => first | with_reducible assumption | exact Nat.le_trans (by with_reducible assumption) (Nat.le_of_ble_eq_true rfl) | omega | (simp only [List.length_take, List.length_drop, List.length_append, List.length_cons, List.length_nil]; omega)); (case zqhn2 => first | with_reducible assumption | exact Nat.le_trans (by with_reducible assumption) (Nat.le_of_ble_eq_true rfl) | omega | (simp only [List.length_take, List.length_drop, List.length_append, List.length_cons, List.length_nil]; omega)); (case zqhn3 => first | with_reducible assumption | exact Nat.le_trans (by with_reducible assumption) (Nat.le_of_ble_eq_true rfl) | omega | (simp only [List.length_take, List.length_drop, List.length_append, List.length_cons, List.length_nil]; omega)); (case zqw0 => first | with_reducible assumption | omega | (simp only [List.length_take, List.length_drop, List.length_append, List.length_cons, List.length_nil]; omega)); (case zqw1 => first | with_reducible assumption | omega | (simp only [List.length_take, List.length_drop, List.length_append, List.length_cons, List.length_nil]; omega)); (case zqr1 => with_reducible assumption); (case zqr2 => with_reducible assumption); (case zqr3 => with_reducible assumption); (case zqge => first | with_reducible assumption | (intro _; omega) | (intro hb0; cases hb0))); intro _ _ _ _ _ _ _ _ _ _ zhP; have _ := zhP.1; have _ := zhP.2.1; have _ := zhP.2.2; clear zhP; clear kFq kNq) | (refine goOn ?_; k_dflt (refine' kmk_slice_ints ?zqF ?zqN ?zql ?zqp ?zqq ?zqi ?zqm rfl ?_ ?zqs ?zqt ?zqz; (case zqF => k_asm); (case zqN => k_asm); (case zql => first | exact Fr.lst (by assumption) (by assumption) | exact News.isList (by assumption) (by k_mem)); (case zqp => kmk_part); (case zqq => kmk_part); (case zqi => assumption); (case zqm => first | exact kmk_all (by assumption) | exact kmk_from (by assumption) (by first | assumption | omega) | exact kmk_upto (by assumption) (by first | assumption | omega) | exact kmk_run (by assumption) (by first | assumption | omega) (by first | assumption | omega)); (case zqs => with_unfolding_all rfl); (case zqt => kmk_pure); (case zqz => exact sz_ok (by assumption) (by omega))); intro _ _ _ _ _ zl1 _ zhC zhL; (try k_lt zl1); (try k_sweep); clear zhC zhL) | (refine goOn ?_; with_reducible rename Fr _ _ _ _ => kFq; with_reducible rename News _ _ _ _ => kNq; k_dflt (refine' appD kFq kNq ?zqo ?zqz ?_; (case zqo => first | exact offOne (by assumption) | exact offNil | assumption); (case zqz => first | assumption | omega)); intro _ _ _; clear kFq kNq) | fail); (try k_steps))
      unfold Stop
      rename Fr _ _ _ _ => kF
      rename News _ _ _ _ => kN
      rename_i x tx ox hx3 tkx hOx hx0 hx1 y ty oy hy3 tky hOy hy0 hy1 md tmd om hm3 tkm hOm hm0 hm1 Dt3 ht3 l13 hA3 hB3 hC3 hD3 hE3 Dx usx cx msx hE4 tkE3 nex hIx hRx hVx Dm usm cm msm hF3 tkF3 nem hIm hRm hVm Dy usy cy msy hG3 tkG3 ney hIy hRy hVy
      have zq := last_lens hB1 hhf hs0 hs1 hRx hVx hx1 hRy hVy hy1 hRm hVm hm1
      have hlx := zq.1
      have hly := zq.2.1
      have hlm := zq.2.2
      clear zq
      have zq := law_small hx0 (Int.lt_of_lt_of_le hx1 hf2) hy0 (Int.lt_of_lt_of_le hy1 hf2)
      have zs1 := zq.1
      have zs2 := zq.2.1
      have zs3 := zq.2.2.1
      have zs4 := zq.2.2.2.1
      have zs5 := zq.2.2.2.2.1
      have zs6 := zq.2.2.2.2.2
      clear zq
      have zq := last_facts (one := one) (other := other) hf1 hf2 hx0 hx1 hy0 hy1 hm0 hm1
      have hd0 := zq.1.1
      have hd3 := zq.1.2
      have b1 := zq.2.1.1
      have c1 := zq.2.1.2
      have b2 := zq.2.2.1.1
      have c2 := zq.2.2.1.2
      have m1 := zq.2.2.2.1.1
      have m2 := zq.2.2.2.1.2.1
      have m3 := zq.2.2.2.1.2.2.1
      have m4 := zq.2.2.2.1.2.2.2
      have e0 := zq.2.2.2.2.1.1
      have e1 := zq.2.2.2.2.1.2
      have m5 := zq.2.2.2.2.2.1.1
      have b5 := zq.2.2.2.2.2.1.2.1
      have c5 := zq.2.2.2.2.2.1.2.2
      have m6 := zq.2.2.2.2.2.2.1
      have m7 := zq.2.2.2.2.2.2.2
      clear zq
      have zq := last_small (one := one) (other := other) hf1 hf2 hx0 hx1 hy0 hy1
      have s1' := zq.1
      have s2' := zq.2.1
      have s3' := zq.2.2.1
      have hU0 := zq.2.2.2.1
      have hV0 := zq.2.2.2.2
      clear zq
      k_steps
      repeat' ((first | (refine goOn ?_; k_here; (with_reducible show wpAny _ _ (PySem.call (Value.ref 135) _) _ _ _); (with_reducible rename Fr _ _ _ _ => kFq); (with_reducible rename News _ _ _ _ => kNq); k_dflt (refine' usePool (c_law_pool ⟨?zqgx, ?zqgt⟩ kFq.keep ?zqhl ?zqhi ?zqhn) kFq kNq rfl (by first | exact Nat.le_of_ble_eq_true rfl | (dsimp only [Ar]; omega)) (by first | exact Nat.le_of_ble_eq_true rfl | (dsimp only [Ar]; omega)) ?_; (case zqgx => with_reducible assumption); (case zqgt => with_reducible assumption); (case zqhl => first | exact Fr.lst kFq (by assumption) | exact News.isList kNq (by k_mem)); (case zqhi => with_reducible assumption); (case zqhn => first | with_reducible assumption | exact Nat.le_trans (by with_reducible assumption) (Nat.le_of_ble_eq_true rfl) | omega)); intro _ _ _ _ _ _ _ _ _ _ _ _ _ _ _ _; clear kFq kNq) | (refine goOn ?_; k_here; (with_reducible show wpAny _ _ (PySem.call (Value.ref 130) _) _ _ _); (with_reducible rename Fr _ _ _ _ => kFq); (with_reducible rename News _ _ _ _ => kNq); k_dflt (refine' useDraw (c_law_draw ⟨?zqgx, ?zqgt⟩ kFq.keep ?zqhP ?zqhO ?zqhJP ?zqhJ ?zqhi ?zqhn ?zqhPb ?zqhm) kFq kNq ?zqU rfl (by first | exact Nat.le_of_ble_eq_true rfl | (dsimp only [Ar]; omega)) (by first | exact Nat.le_of_ble_eq_true rfl | (dsimp only [Ar]; omega)) ?_; (case zqgx => with_reducible assumption); (case zqgt => with_reducible assumption); (case zqhP => exact (kNq (_, _) (by k_mem)).1); (case zqhPb => exact (kNq (_, _) (by k_mem)).2.2); (case zqhO => with_reducible assumption); (case zqhJP => with_reducible assumption); (case zqhJ => first | exact Fr.lst kFq (by assumption) | exact News.isList kNq (by k_mem)); (case zqhi => with_reducible assumption); (case zqhn => first | with_reducible assumption | exact Nat.le_trans (by with_reducible assumption) (Nat.le_of_ble_eq_true rfl) | omega); (case zqhm => first | with_reducible assumption | omega); (case zqU => k_updF)); intro _ _ _ _ _ _ kNn; (try dsimp only [List.append] at kNn); revert kNn; intro _ _ _ _; clear kFq kNq) | (refine goOn ?_; k_here; (with_reducible show wpAny _ _ (PySem.call (Value.ref 154) _) _ _ _); (with_reducible rename Fr _ _ _ _ => kFq); (with_reducible rename News _ _ _ _ => kNq); k_dflt (refine' useDraw (c_law_number ⟨?zqgx, ?zqgt⟩ kFq.keep ?zqhP ?zqhO ?zqhJP ?zqhJ ?zqhi ?zqhn ?zqhPb ?zqw0 ?zqw1 ?zqm0 ?zqm1) kFq kNq ?zqU rfl (by first | exact Nat.le_of_ble_eq_true rfl | (dsimp only [Ar]; omega)) (by first | exact Nat.le_of_ble_eq_true rfl | (dsimp only [Ar]; omega)) ?_; (case zqgx => with_reducible assumption); (case zqgt => with_reducible assumption); (case zqhP => exact (kNq (_, _) (by k_mem)).1); (case zqhPb => exact (kNq (_, _) (by k_mem)).2.2); (case zqhO => with_reducible assumption); (case zqhJP => with_reducible assumption); (case zqhJ => first | exact Fr.lst kFq (by assumption) | exact News.isList kNq (by k_mem)); (case zqhi => with_reducible assumption); (case zqhn => first | with_reducible assumption | exact Nat.le_trans (by with_reducible assumption) (Nat.le_of_ble_eq_true rfl) | omega); (case zqw0 => first | with_reducible assumption | omega); (case zqw1 => first | with_reducible assumption | omega); (case zqm0 => first | with_reducible assumption | omega); (case zqm1 => first | with_reducible assumption | omega); (case zqU => k_updF)); intro _ _ _ _ _ _ kNn; (try dsimp only [List.append] at kNn); revert kNn; intro _ _ _ _; clear kFq kNq) | (refine goOn ?_; k_here; (with_reducible show wpAny _ _ (PySem.call (Value.ref 142) _) _ _ _); (with_reducible rename Fr _ _ _ _ => kFq); (with_reducible rename News _ _ _ _ => kNq); k_dflt (refine' useList (c_law_row ⟨?zqgx, ?zqgt⟩ kFq.keep ?zqw0 ?zqw1 ?zqn0 ?zqn1) kFq kNq rfl (by first | exact Nat.le_of_ble_eq_true rfl | (dsimp only [Ar]; omega)) (by first | exact Nat.le_of_ble_eq_true rfl | (dsimp only [Ar]; omega)) ?_; (case zqgx => with_reducible assumption); (case zqgt => with_reducible assumption); (case zqw0 => first | with_reducible assumption | omega); (case zqw1 => first | with_reducible assumption | omega); (case zqn0 => first | with_reducible assumption | omega); (case zqn1 => first | with_reducible assumption | omega)); intro _ _ _ _ _ _ _ _ _ _ zhP; have _ := zhP.1; have _ := zhP.2; clear zhP; clear kFq kNq) | (refine goOn ?_; k_here; (with_reducible show wpAny _ _ (PySem.call (Value.ref 102) _) _ _ _); (with_reducible rename Fr _ _ _ _ => kFq); (with_reducible rename News _ _ _ _ => kNq); k_dflt (refine' useList (c_put_together ⟨?zqgx, ?zqgt⟩ kFq.keep ?zqhl ?zqhl2 ?zqhl3 ?zqhi ?zqhi2 ?zqhi3 ?zqhn ?zqhn2 ?zqhn3 ?zqs0 ?zqs1 ?zqw0 ?zqw1 ?zqr1 ?zqr2 ?zqr3) kFq kNq rfl (by first | exact Nat.le_of_ble_eq_true rfl | (dsimp only [Ar]; omega)) (by first | exact Nat.le_of_ble_eq_true rfl | (dsimp only [Ar]; omega)) ?_; (case zqgx => with_reducible assumption); (case zqgt => with_reducible assumption); (case zqhl => first | exact Fr.lst kFq (by with_reducible assumption) | exact News.isList kNq (by k_mem)); (case zqhl2 => first | exact Fr.lst kFq (by with_reducible assumption) | exact News.isList kNq (by k_mem)); (case zqhl3 => first | exact Fr.lst kFq (by with_reducible assumption) | exact News.isList kNq (by k_mem)); (case zqhi => with_reducible assumption); (case zqhi2 => with_reducible assumption); (case zqhi3 => with_reducible assumption); (case zqhn => first | with_reducible assumption | exact Nat.le_trans (by with_reducible assumption) (Nat.le_of_ble_eq_true rfl) | exact le_max3 (by with_reducible assumption) (by with_reducible assumption) (by with_reducible assumption) (by with_reducible assumption) rfl | omega | (simp only [List.length_take, List.length_drop, List.length_append, List.length_cons, List.length_nil]; omega)); (case zqhn2 => first | with_reducible assumption | exact Nat.le_trans (by with_reducible assumption) (Nat.le_of_ble_eq_true rfl) | exact le_max3 (by with_reducible assumption) (by with_reducible assumption) (by with_reducible assumption) (by with_reducible assumption) rfl | omega | (simp only [List.length_take, List.length_drop, List.length_append, List.length_cons, List.length_nil]; omega)); (case zqhn3 => first | with_reducible assumption | exact Nat.le_trans (by with_reducible assumption) (Nat.le_of_ble_eq_true rfl) | exact le_max3 (by with_reducible assumption) (by with_reducible assumption) (by with_reducible assumption) (by with_reducible assumption) rfl | omega | (simp only [List.length_take, List.length_drop, List.length_append, List.length_cons, List.length_nil]; omega)); (case zqs0 => first | with_reducible assumption | omega | (simp only [List.length_take, List.length_drop, List.length_append, List.length_cons, List.length_nil]; omega)); (case zqs1 => first | with_reducible assumption | omega | (simp only [List.length_take, List.length_drop, List.length_append, List.length_cons, List.length_nil]; omega)); (case zqw0 => first | with_reducible assumption | omega | (simp only [List.length_take, List.length_drop, List.length_append, List.length_cons, List.length_nil]; omega)); (case zqw1 => first | with_reducible assumption | omega | (simp only [List.length_take, List.length_drop, List.length_append, List.length_cons, List.length_nil]; omega)); (case zqr1 => with_reducible assumption); (case zqr2 => with_reducible assumption); (case zqr3 => with_reducible assumption)); intro _ _ _ _ _ _ _ _ _ _ zhP; have _ := zhP.1; have _ := zhP.2.1; have _ := zhP.2.2; clear zhP; clear kFq kNq) | (refine goOn ?_; k_here; (with_reducible show wpAny _ _ (PySem.call (Value.ref 109) _) _ _ _); (with_reducible rename Fr _ _ _ _ => kFq); (with_reducible rename News _ _ _ _ => kNq); k_dflt (refine' useList (c_middle_of ⟨?zqgx, ?zqgt⟩ kFq.keep ?zqhl ?zqhl2 ?zqhl3 ?zqhi ?zqhi2 ?zqhi3 ?zqhn ?zqhn2 ?zqhn3 ?zqw0 ?zqw1 ?zqr1 ?zqr2 ?zqr3 ?zqge) kFq kNq rfl (by first | exact Nat.le_of_ble_eq_true rfl | (dsimp only [Ar]; omega)) (by first | exact Nat.le_of_ble_eq_true rfl | (dsimp only [Ar]; omega)) ?_; (case zqgx => with_reducible assumption); (case zqgt => with_reducible assumption); (case zqhl => first | exact Fr.lst kFq (by with_reducible assumption) | exact News.isList kNq (by k_mem)); (case zqhl2 => first | exact Fr.lst kFq (by with_reducible assumption) | exact News.isList kNq (by k_mem)); (case zqhl3 => first | exact Fr.lst kFq (by with_reducible assumption) | exact News.isList kNq (by k_mem)); (case zqhi => with_reducible assumption); (case zqhi2 => with_reducible assumption); (case zqhi3 => with_reducible assumption); (case zqhn => first | with_reducible assumption | exact Nat.le_trans (by with_reducible assumption) (Nat.le_of_ble_eq_true rfl) | omega | (simp only [List.length_take, List.length_drop, List.length_append, List.length_cons, List.length_nil]; omega)); (case zqhn2 => first | with_reducible assumption | exact Nat.le_trans (by with_reducible assumption) (Nat.le_of_ble_eq_true rfl) | omega | (simp only [List.length_take, List.length_drop, List.length_append, List.length_cons, List.length_nil]; omega)); (case zqhn3 => first | with_reducible assumption | exact Nat.le_trans (by with_reducible assumption) (Nat.le_of_ble_eq_true rfl) | omega | (simp only [List.length_take, List.length_drop, List.length_append, List.length_cons, List.length_nil]; omega)); (case zqw0 => first | with_reducible assumption | omega | (simp only [List.length_take, List.length_drop, List.length_append, List.length_cons, List.length_nil]; omega)); (case zqw1 => first | with_reducible assumption | omega | (simp only [List.length_take, List.length_drop, List.length_append, List.length_cons, List.length_nil]; omega)); (case zqr1 => with_reducible assumption); (case zqr2 => with_reducible assumption); (case zqr3 => with_reducible assumption); (case zqge => first | with_reducible assumption | (intro _; omega) | (intro hb0; cases hb0))); intro _ _ _ _ _ _ _ _ _ _ zhP; have _ := zhP.1; have _ := zhP.2.1; have _ := zhP.2.2; clear zhP; clear kFq kNq) | (refine goOn ?_; k_dflt (refine' kmk_slice_ints ?zqF ?zqN ?zql ?zqp ?zqq ?zqi ?zqm rfl ?_ ?zqs ?zqt ?zqz; (case zqF => k_asm); (case zqN => k_asm); (case zql => first | exact Fr.lst (by assumption) (by assumption) | exact News.isList (by assumption) (by k_mem)); (case zqp => kmk_part); (case zqq => kmk_part); (case zqi => assumption); (case zqm => first | exact kmk_all (by assumption) | exact kmk_from (by assumption) (by first | assumption | omega) | exact kmk_upto (by assumption) (by first | assumption | omega) | exact kmk_run (by assumption) (by first | assumption | omega) (by first | assumption | omega)); (case zqs => with_unfolding_all rfl); (case zqt => kmk_pure); (case zqz => exact sz_ok (by assumption) (by omega))); intro _ _ _ _ _ zl1 _ zhC zhL; (try k_lt zl1); (try k_sweep); clear zhC zhL) | (refine goOn ?_; with_reducible rename Fr _ _ _ _ => kFq; with_reducible rename News _ _ _ _ => kNq; k_dflt (refine' appD kFq kNq ?zqo ?zqz ?_; (case zqo => first | exact offOne (by assumption) | exact offNil | assumption); (case zqz => first | assumption | omega)); intro _ _ _; clear kFq kNq) | fail); (try k_steps))
      · unfold Stop
        rename val _ _ = x * _ => hv1
        rename val _ _ = y * _ => hv2
        rename val _ _ = ite _ _ _ * _ => hv3
        have hn1 := row_len90 hB1 hv1 (by with_reducible assumption) s1'
        have hn2 := row_len90 hB1 hv2 (by with_reducible assumption) s2'
        have hn3 := row_len90 hB1 hv3 (by with_reducible assumption) s3'
        have hge := fun hb => ge_of hv3 hv1 hv2 (cross_ge hx0 hy0 hU0 hV0 hb)
        k_steps
        repeat' ((first | (refine goOn ?_; k_here; (with_reducible show wpAny _ _ (PySem.call (Value.ref 135) _) _ _ _); (with_reducible rename Fr _ _ _ _ => kFq); (with_reducible rename News _ _ _ _ => kNq); k_dflt (refine' usePool (c_law_pool ⟨?zqgx, ?zqgt⟩ kFq.keep ?zqhl ?zqhi ?zqhn) kFq kNq rfl (by first | exact Nat.le_of_ble_eq_true rfl | (dsimp only [Ar]; omega)) (by first | exact Nat.le_of_ble_eq_true rfl | (dsimp only [Ar]; omega)) ?_; (case zqgx => with_reducible assumption); (case zqgt => with_reducible assumption); (case zqhl => first | exact Fr.lst kFq (by assumption) | exact News.isList kNq (by k_mem)); (case zqhi => with_reducible assumption); (case zqhn => first | with_reducible assumption | exact Nat.le_trans (by with_reducible assumption) (Nat.le_of_ble_eq_true rfl) | omega)); intro _ _ _ _ _ _ _ _ _ _ _ _ _ _ _ _; clear kFq kNq) | (refine goOn ?_; k_here; (with_reducible show wpAny _ _ (PySem.call (Value.ref 130) _) _ _ _); (with_reducible rename Fr _ _ _ _ => kFq); (with_reducible rename News _ _ _ _ => kNq); k_dflt (refine' useDraw (c_law_draw ⟨?zqgx, ?zqgt⟩ kFq.keep ?zqhP ?zqhO ?zqhJP ?zqhJ ?zqhi ?zqhn ?zqhPb ?zqhm) kFq kNq ?zqU rfl (by first | exact Nat.le_of_ble_eq_true rfl | (dsimp only [Ar]; omega)) (by first | exact Nat.le_of_ble_eq_true rfl | (dsimp only [Ar]; omega)) ?_; (case zqgx => with_reducible assumption); (case zqgt => with_reducible assumption); (case zqhP => exact (kNq (_, _) (by k_mem)).1); (case zqhPb => exact (kNq (_, _) (by k_mem)).2.2); (case zqhO => with_reducible assumption); (case zqhJP => with_reducible assumption); (case zqhJ => first | exact Fr.lst kFq (by assumption) | exact News.isList kNq (by k_mem)); (case zqhi => with_reducible assumption); (case zqhn => first | with_reducible assumption | exact Nat.le_trans (by with_reducible assumption) (Nat.le_of_ble_eq_true rfl) | omega); (case zqhm => first | with_reducible assumption | omega); (case zqU => k_updF)); intro _ _ _ _ _ _ kNn; (try dsimp only [List.append] at kNn); revert kNn; intro _ _ _ _; clear kFq kNq) | (refine goOn ?_; k_here; (with_reducible show wpAny _ _ (PySem.call (Value.ref 154) _) _ _ _); (with_reducible rename Fr _ _ _ _ => kFq); (with_reducible rename News _ _ _ _ => kNq); k_dflt (refine' useDraw (c_law_number ⟨?zqgx, ?zqgt⟩ kFq.keep ?zqhP ?zqhO ?zqhJP ?zqhJ ?zqhi ?zqhn ?zqhPb ?zqw0 ?zqw1 ?zqm0 ?zqm1) kFq kNq ?zqU rfl (by first | exact Nat.le_of_ble_eq_true rfl | (dsimp only [Ar]; omega)) (by first | exact Nat.le_of_ble_eq_true rfl | (dsimp only [Ar]; omega)) ?_; (case zqgx => with_reducible assumption); (case zqgt => with_reducible assumption); (case zqhP => exact (kNq (_, _) (by k_mem)).1); (case zqhPb => exact (kNq (_, _) (by k_mem)).2.2); (case zqhO => with_reducible assumption); (case zqhJP => with_reducible assumption); (case zqhJ => first | exact Fr.lst kFq (by assumption) | exact News.isList kNq (by k_mem)); (case zqhi => with_reducible assumption); (case zqhn => first | with_reducible assumption | exact Nat.le_trans (by with_reducible assumption) (Nat.le_of_ble_eq_true rfl) | omega); (case zqw0 => first | with_reducible assumption | omega); (case zqw1 => first | with_reducible assumption | omega); (case zqm0 => first | with_reducible assumption | omega); (case zqm1 => first | with_reducible assumption | omega); (case zqU => k_updF)); intro _ _ _ _ _ _ kNn; (try dsimp only [List.append] at kNn); revert kNn; intro _ _ _ _; clear kFq kNq) | (refine goOn ?_; k_here; (with_reducible show wpAny _ _ (PySem.call (Value.ref 142) _) _ _ _); (with_reducible rename Fr _ _ _ _ => kFq); (with_reducible rename News _ _ _ _ => kNq); k_dflt (refine' useList (c_law_row ⟨?zqgx, ?zqgt⟩ kFq.keep ?zqw0 ?zqw1 ?zqn0 ?zqn1) kFq kNq rfl (by first | exact Nat.le_of_ble_eq_true rfl | (dsimp only [Ar]; omega)) (by first | exact Nat.le_of_ble_eq_true rfl | (dsimp only [Ar]; omega)) ?_; (case zqgx => with_reducible assumption); (case zqgt => with_reducible assumption); (case zqw0 => first | with_reducible assumption | omega); (case zqw1 => first | with_reducible assumption | omega); (case zqn0 => first | with_reducible assumption | omega); (case zqn1 => first | with_reducible assumption | omega)); intro _ _ _ _ _ _ _ _ _ _ zhP; have _ := zhP.1; have _ := zhP.2; clear zhP; clear kFq kNq) | (refine goOn ?_; k_here; (with_reducible show wpAny _ _ (PySem.call (Value.ref 102) _) _ _ _); (with_reducible rename Fr _ _ _ _ => kFq); (with_reducible rename News _ _ _ _ => kNq); k_dflt (refine' useList (c_put_together ⟨?zqgx, ?zqgt⟩ kFq.keep ?zqhl ?zqhl2 ?zqhl3 ?zqhi ?zqhi2 ?zqhi3 ?zqhn ?zqhn2 ?zqhn3 ?zqs0 ?zqs1 ?zqw0 ?zqw1 ?zqr1 ?zqr2 ?zqr3) kFq kNq rfl (by first | exact Nat.le_of_ble_eq_true rfl | (dsimp only [Ar]; omega)) (by first | exact Nat.le_of_ble_eq_true rfl | (dsimp only [Ar]; omega)) ?_; (case zqgx => with_reducible assumption); (case zqgt => with_reducible assumption); (case zqhl => first | exact Fr.lst kFq (by with_reducible assumption) | exact News.isList kNq (by k_mem)); (case zqhl2 => first | exact Fr.lst kFq (by with_reducible assumption) | exact News.isList kNq (by k_mem)); (case zqhl3 => first | exact Fr.lst kFq (by with_reducible assumption) | exact News.isList kNq (by k_mem)); (case zqhi => with_reducible assumption); (case zqhi2 => with_reducible assumption); (case zqhi3 => with_reducible assumption); (case zqhn => first | with_reducible assumption | exact Nat.le_trans (by with_reducible assumption) (Nat.le_of_ble_eq_true rfl) | exact le_max3 (by with_reducible assumption) (by with_reducible assumption) (by with_reducible assumption) (by with_reducible assumption) rfl | omega | (simp only [List.length_take, List.length_drop, List.length_append, List.length_cons, List.length_nil]; omega)); (case zqhn2 => first | with_reducible assumption | exact Nat.le_trans (by with_reducible assumption) (Nat.le_of_ble_eq_true rfl) | exact le_max3 (by with_reducible assumption) (by with_reducible assumption) (by with_reducible assumption) (by with_reducible assumption) rfl | omega | (simp only [List.length_take, List.length_drop, List.length_append, List.length_cons, List.length_nil]; omega)); (case zqhn3 => first | with_reducible assumption | exact Nat.le_trans (by with_reducible assumption) (Nat.le_of_ble_eq_true rfl) | exact le_max3 (by with_reducible assumption) (by with_reducible assumption) (by with_reducible assumption) (by with_reducible assumption) rfl | omega | (simp only [List.length_take, List.length_drop, List.length_append, List.length_cons, List.length_nil]; omega)); (case zqs0 => first | with_reducible assumption | omega | (simp only [List.length_take, List.length_drop, List.length_append, List.length_cons, List.length_nil]; omega)); (case zqs1 => first | with_reducible assumption | omega | (simp only [List.length_take, List.length_drop, List.length_append, List.length_cons, List.length_nil]; omega)); (case zqw0 => first | with_reducible assumption | omega | (simp only [List.length_take, List.length_drop, List.length_append, List.length_cons, List.length_nil]; omega)); (case zqw1 => first | with_reducible assumption | omega | (simp only [List.length_take, List.length_drop, List.length_append, List.length_cons, List.length_nil]; omega)); (case zqr1 => with_reducible assumption); (case zqr2 => with_reducible assumption); (case zqr3 => with_reducible assumption)); intro _ _ _ _ _ _ _ _ _ _ zhP; have _ := zhP.1; have _ := zhP.2.1; have _ := zhP.2.2; clear zhP; clear kFq kNq) | (refine goOn ?_; k_here; (with_reducible show wpAny _ _ (PySem.call (Value.ref 109) _) _ _ _); (with_reducible rename Fr _ _ _ _ => kFq); (with_reducible rename News _ _ _ _ => kNq); k_dflt (refine' useList (c_middle_of ⟨?zqgx, ?zqgt⟩ kFq.keep ?zqhl ?zqhl2 ?zqhl3 ?zqhi ?zqhi2 ?zqhi3 ?zqhn ?zqhn2 ?zqhn3 ?zqw0 ?zqw1 ?zqr1 ?zqr2 ?zqr3 ?zqge) kFq kNq rfl (by first | exact Nat.le_of_ble_eq_true rfl | (dsimp only [Ar]; omega)) (by first | exact Nat.le_of_ble_eq_true rfl | (dsimp only [Ar]; omega)) ?_; (case zqgx => with_reducible assumption); (case zqgt => with_reducible assumption); (case zqhl => first | exact Fr.lst kFq (by with_reducible assumption) | exact News.isList kNq (by k_mem)); (case zqhl2 => first | exact Fr.lst kFq (by with_reducible assumption) | exact News.isList kNq (by k_mem)); (case zqhl3 => first | exact Fr.lst kFq (by with_reducible assumption) | exact News.isList kNq (by k_mem)); (case zqhi => with_reducible assumption); (case zqhi2 => with_reducible assumption); (case zqhi3 => with_reducible assumption); (case zqhn => first | with_reducible assumption | exact Nat.le_trans (by with_reducible assumption) (Nat.le_of_ble_eq_true rfl) | omega | (simp only [List.length_take, List.length_drop, List.length_append, List.length_cons, List.length_nil]; omega)); (case zqhn2 => first | with_reducible assumption | exact Nat.le_trans (by with_reducible assumption) (Nat.le_of_ble_eq_true rfl) | omega | (simp only [List.length_take, List.length_drop, List.length_append, List.length_cons, List.length_nil]; omega)); (case zqhn3 => first | with_reducible assumption | exact Nat.le_trans (by with_reducible assumption) (Nat.le_of_ble_eq_true rfl) | omega | (simp only [List.length_take, List.length_drop, List.length_append, List.length_cons, List.length_nil]; omega)); (case zqw0 => first | with_reducible assumption | omega | (simp only [List.length_take, List.length_drop, List.length_append, List.length_cons, List.length_nil]; omega)); (case zqw1 => first | with_reducible assumption | omega | (simp only [List.length_take, List.length_drop, List.length_append, List.length_cons, List.length_nil]; omega)); (case zqr1 => with_reducible assumption); (case zqr2 => with_reducible assumption); (case zqr3 => with_reducible assumption); (case zqge => first | with_reducible assumption | (intro _; omega) | (intro hb0; cases hb0))); intro _ _ _ _ _ _ _ _ _ _ zhP; have _ := zhP.1; have _ := zhP.2.1; have _ := zhP.2.2; clear zhP; clear kFq kNq) | (refine goOn ?_; k_dflt (refine' kmk_slice_ints ?zqF ?zqN ?zql ?zqp ?zqq ?zqi ?zqm rfl ?_ ?zqs ?zqt ?zqz; (case zqF => k_asm); (case zqN => k_asm); (case zql => first | exact Fr.lst (by assumption) (by assumption) | exact News.isList (by assumption) (by k_mem)); (case zqp => kmk_part); (case zqq => kmk_part); (case zqi => assumption); (case zqm => first | exact kmk_all (by assumption) | exact kmk_from (by assumption) (by first | assumption | omega) | exact kmk_upto (by assumption) (by first | assumption | omega) | exact kmk_run (by assumption) (by first | assumption | omega) (by first | assumption | omega)); (case zqs => with_unfolding_all rfl); (case zqt => kmk_pure); (case zqz => exact sz_ok (by assumption) (by omega))); intro _ _ _ _ _ zl1 _ zhC zhL; (try k_lt zl1); (try k_sweep); clear zhC zhL) | (refine goOn ?_; with_reducible rename Fr _ _ _ _ => kFq; with_reducible rename News _ _ _ _ => kNq; k_dflt (refine' appD kFq kNq ?zqo ?zqz ?_; (case zqo => first | exact offOne (by assumption) | exact offNil | assumption); (case zqz => first | assumption | omega)); intro _ _ _; clear kFq kNq) | fail); (try k_steps))
        · rename val _ _ = one => hve
          rename Row _ _ => hre
          have hEq := Row.inj hB1 hRa hre (by rw [hVa, hve])
          rw [decide_eq_true hEq]
          k_steps
          repeat' ((first | (refine goOn ?_; k_here; (with_reducible show wpAny _ _ (PySem.call (Value.ref 135) _) _ _ _); (with_reducible rename Fr _ _ _ _ => kFq); (with_reducible rename News _ _ _ _ => kNq); k_dflt (refine' usePool (c_law_pool ⟨?zqgx, ?zqgt⟩ kFq.keep ?zqhl ?zqhi ?zqhn) kFq kNq rfl (by first | exact Nat.le_of_ble_eq_true rfl | (dsimp only [Ar]; omega)) (by first | exact Nat.le_of_ble_eq_true rfl | (dsimp only [Ar]; omega)) ?_; (case zqgx => with_reducible assumption); (case zqgt => with_reducible assumption); (case zqhl => first | exact Fr.lst kFq (by assumption) | exact News.isList kNq (by k_mem)); (case zqhi => with_reducible assumption); (case zqhn => first | with_reducible assumption | exact Nat.le_trans (by with_reducible assumption) (Nat.le_of_ble_eq_true rfl) | omega)); intro _ _ _ _ _ _ _ _ _ _ _ _ _ _ _ _; clear kFq kNq) | (refine goOn ?_; k_here; (with_reducible show wpAny _ _ (PySem.call (Value.ref 130) _) _ _ _); (with_reducible rename Fr _ _ _ _ => kFq); (with_reducible rename News _ _ _ _ => kNq); k_dflt (refine' useDraw (c_law_draw ⟨?zqgx, ?zqgt⟩ kFq.keep ?zqhP ?zqhO ?zqhJP ?zqhJ ?zqhi ?zqhn ?zqhPb ?zqhm) kFq kNq ?zqU rfl (by first | exact Nat.le_of_ble_eq_true rfl | (dsimp only [Ar]; omega)) (by first | exact Nat.le_of_ble_eq_true rfl | (dsimp only [Ar]; omega)) ?_; (case zqgx => with_reducible assumption); (case zqgt => with_reducible assumption); (case zqhP => exact (kNq (_, _) (by k_mem)).1); (case zqhPb => exact (kNq (_, _) (by k_mem)).2.2); (case zqhO => with_reducible assumption); (case zqhJP => with_reducible assumption); (case zqhJ => first | exact Fr.lst kFq (by assumption) | exact News.isList kNq (by k_mem)); (case zqhi => with_reducible assumption); (case zqhn => first | with_reducible assumption | exact Nat.le_trans (by with_reducible assumption) (Nat.le_of_ble_eq_true rfl) | omega); (case zqhm => first | with_reducible assumption | omega); (case zqU => k_updF)); intro _ _ _ _ _ _ kNn; (try dsimp only [List.append] at kNn); revert kNn; intro _ _ _ _; clear kFq kNq) | (refine goOn ?_; k_here; (with_reducible show wpAny _ _ (PySem.call (Value.ref 154) _) _ _ _); (with_reducible rename Fr _ _ _ _ => kFq); (with_reducible rename News _ _ _ _ => kNq); k_dflt (refine' useDraw (c_law_number ⟨?zqgx, ?zqgt⟩ kFq.keep ?zqhP ?zqhO ?zqhJP ?zqhJ ?zqhi ?zqhn ?zqhPb ?zqw0 ?zqw1 ?zqm0 ?zqm1) kFq kNq ?zqU rfl (by first | exact Nat.le_of_ble_eq_true rfl | (dsimp only [Ar]; omega)) (by first | exact Nat.le_of_ble_eq_true rfl | (dsimp only [Ar]; omega)) ?_; (case zqgx => with_reducible assumption); (case zqgt => with_reducible assumption); (case zqhP => exact (kNq (_, _) (by k_mem)).1); (case zqhPb => exact (kNq (_, _) (by k_mem)).2.2); (case zqhO => with_reducible assumption); (case zqhJP => with_reducible assumption); (case zqhJ => first | exact Fr.lst kFq (by assumption) | exact News.isList kNq (by k_mem)); (case zqhi => with_reducible assumption); (case zqhn => first | with_reducible assumption | exact Nat.le_trans (by with_reducible assumption) (Nat.le_of_ble_eq_true rfl) | omega); (case zqw0 => first | with_reducible assumption | omega); (case zqw1 => first | with_reducible assumption | omega); (case zqm0 => first | with_reducible assumption | omega); (case zqm1 => first | with_reducible assumption | omega); (case zqU => k_updF)); intro _ _ _ _ _ _ kNn; (try dsimp only [List.append] at kNn); revert kNn; intro _ _ _ _; clear kFq kNq) | (refine goOn ?_; k_here; (with_reducible show wpAny _ _ (PySem.call (Value.ref 142) _) _ _ _); (with_reducible rename Fr _ _ _ _ => kFq); (with_reducible rename News _ _ _ _ => kNq); k_dflt (refine' useList (c_law_row ⟨?zqgx, ?zqgt⟩ kFq.keep ?zqw0 ?zqw1 ?zqn0 ?zqn1) kFq kNq rfl (by first | exact Nat.le_of_ble_eq_true rfl | (dsimp only [Ar]; omega)) (by first | exact Nat.le_of_ble_eq_true rfl | (dsimp only [Ar]; omega)) ?_; (case zqgx => with_reducible assumption); (case zqgt => with_reducible assumption); (case zqw0 => first | with_reducible assumption | omega); (case zqw1 => first | with_reducible assumption | omega); (case zqn0 => first | with_reducible assumption | omega); (case zqn1 => first | with_reducible assumption | omega)); intro _ _ _ _ _ _ _ _ _ _ zhP; have _ := zhP.1; have _ := zhP.2; clear zhP; clear kFq kNq) | (refine goOn ?_; k_here; (with_reducible show wpAny _ _ (PySem.call (Value.ref 102) _) _ _ _); (with_reducible rename Fr _ _ _ _ => kFq); (with_reducible rename News _ _ _ _ => kNq); k_dflt (refine' useList (c_put_together ⟨?zqgx, ?zqgt⟩ kFq.keep ?zqhl ?zqhl2 ?zqhl3 ?zqhi ?zqhi2 ?zqhi3 ?zqhn ?zqhn2 ?zqhn3 ?zqs0 ?zqs1 ?zqw0 ?zqw1 ?zqr1 ?zqr2 ?zqr3) kFq kNq rfl (by first | exact Nat.le_of_ble_eq_true rfl | (dsimp only [Ar]; omega)) (by first | exact Nat.le_of_ble_eq_true rfl | (dsimp only [Ar]; omega)) ?_; (case zqgx => with_reducible assumption); (case zqgt => with_reducible assumption); (case zqhl => first | exact Fr.lst kFq (by with_reducible assumption) | exact News.isList kNq (by k_mem)); (case zqhl2 => first | exact Fr.lst kFq (by with_reducible assumption) | exact News.isList kNq (by k_mem)); (case zqhl3 => first | exact Fr.lst kFq (by with_reducible assumption) | exact News.isList kNq (by k_mem)); (case zqhi => with_reducible assumption); (case zqhi2 => with_reducible assumption); (case zqhi3 => with_reducible assumption); (case zqhn => first | with_reducible assumption | exact Nat.le_trans (by with_reducible assumption) (Nat.le_of_ble_eq_true rfl) | exact le_max3 (by with_reducible assumption) (by with_reducible assumption) (by with_reducible assumption) (by with_reducible assumption) rfl | omega | (simp only [List.length_take, List.length_drop, List.length_append, List.length_cons, List.length_nil]; omega)); (case zqhn2 => first | with_reducible assumption | exact Nat.le_trans (by with_reducible assumption) (Nat.le_of_ble_eq_true rfl) | exact le_max3 (by with_reducible assumption) (by with_reducible assumption) (by with_reducible assumption) (by with_reducible assumption) rfl | omega | (simp only [List.length_take, List.length_drop, List.length_append, List.length_cons, List.length_nil]; omega)); (case zqhn3 => first | with_reducible assumption | exact Nat.le_trans (by with_reducible assumption) (Nat.le_of_ble_eq_true rfl) | exact le_max3 (by with_reducible assumption) (by with_reducible assumption) (by with_reducible assumption) (by with_reducible assumption) rfl | omega | (simp only [List.length_take, List.length_drop, List.length_append, List.length_cons, List.length_nil]; omega)); (case zqs0 => first | with_reducible assumption | omega | (simp only [List.length_take, List.length_drop, List.length_append, List.length_cons, List.length_nil]; omega)); (case zqs1 => first | with_reducible assumption | omega | (simp only [List.length_take, List.length_drop, List.length_append, List.length_cons, List.length_nil]; omega)); (case zqw0 => first | with_reducible assumption | omega | (simp only [List.length_take, List.length_drop, List.length_append, List.length_cons, List.length_nil]; omega)); (case zqw1 => first | with_reducible assumption | omega | (simp only [List.length_take, List.length_drop, List.length_append, List.length_cons, List.length_nil]; omega)); (case zqr1 => with_reducible assumption); (case zqr2 => with_reducible assumption); (case zqr3 => with_reducible assumption)); intro _ _ _ _ _ _ _ _ _ _ zhP; have _ := zhP.1; have _ := zhP.2.1; have _ := zhP.2.2; clear zhP; clear kFq kNq) | (refine goOn ?_; k_here; (with_reducible show wpAny _ _ (PySem.call (Value.ref 109) _) _ _ _); (with_reducible rename Fr _ _ _ _ => kFq); (with_reducible rename News _ _ _ _ => kNq); k_dflt (refine' useList (c_middle_of ⟨?zqgx, ?zqgt⟩ kFq.keep ?zqhl ?zqhl2 ?zqhl3 ?zqhi ?zqhi2 ?zqhi3 ?zqhn ?zqhn2 ?zqhn3 ?zqw0 ?zqw1 ?zqr1 ?zqr2 ?zqr3 ?zqge) kFq kNq rfl (by first | exact Nat.le_of_ble_eq_true rfl | (dsimp only [Ar]; omega)) (by first | exact Nat.le_of_ble_eq_true rfl | (dsimp only [Ar]; omega)) ?_; (case zqgx => with_reducible assumption); (case zqgt => with_reducible assumption); (case zqhl => first | exact Fr.lst kFq (by with_reducible assumption) | exact News.isList kNq (by k_mem)); (case zqhl2 => first | exact Fr.lst kFq (by with_reducible assumption) | exact News.isList kNq (by k_mem)); (case zqhl3 => first | exact Fr.lst kFq (by with_reducible assumption) | exact News.isList kNq (by k_mem)); (case zqhi => with_reducible assumption); (case zqhi2 => with_reducible assumption); (case zqhi3 => with_reducible assumption); (case zqhn => first | with_reducible assumption | exact Nat.le_trans (by with_reducible assumption) (Nat.le_of_ble_eq_true rfl) | omega | (simp only [List.length_take, List.length_drop, List.length_append, List.length_cons, List.length_nil]; omega)); (case zqhn2 => first | with_reducible assumption | exact Nat.le_trans (by with_reducible assumption) (Nat.le_of_ble_eq_true rfl) | omega | (simp only [List.length_take, List.length_drop, List.length_append, List.length_cons, List.length_nil]; omega)); (case zqhn3 => first | with_reducible assumption | exact Nat.le_trans (by with_reducible assumption) (Nat.le_of_ble_eq_true rfl) | omega | (simp only [List.length_take, List.length_drop, List.length_append, List.length_cons, List.length_nil]; omega)); (case zqw0 => first | with_reducible assumption | omega | (simp only [List.length_take, List.length_drop, List.length_append, List.length_cons, List.length_nil]; omega)); (case zqw1 => first | with_reducible assumption | omega | (simp only [List.length_take, List.length_drop, List.length_append, List.length_cons, List.length_nil]; omega)); (case zqr1 => with_reducible assumption); (case zqr2 => with_reducible assumption); (case zqr3 => with_reducible assumption); (case zqge => first | with_reducible assumption | (intro _; omega) | (intro hb0; cases hb0))); intro _ _ _ _ _ _ _ _ _ _ zhP; have _ := zhP.1; have _ := zhP.2.1; have _ := zhP.2.2; clear zhP; clear kFq kNq) | (refine goOn ?_; k_dflt (refine' kmk_slice_ints ?zqF ?zqN ?zql ?zqp ?zqq ?zqi ?zqm rfl ?_ ?zqs ?zqt ?zqz; (case zqF => k_asm); (case zqN => k_asm); (case zql => first | exact Fr.lst (by assumption) (by assumption) | exact News.isList (by assumption) (by k_mem)); (case zqp => kmk_part); (case zqq => kmk_part); (case zqi => assumption); (case zqm => first | exact kmk_all (by assumption) | exact kmk_from (by assumption) (by first | assumption | omega) | exact kmk_upto (by assumption) (by first | assumption | omega) | exact kmk_run (by assumption) (by first | assumption | omega) (by first | assumption | omega)); (case zqs => with_unfolding_all rfl); (case zqt => kmk_pure); (case zqz => exact sz_ok (by assumption) (by omega))); intro _ _ _ _ _ zl1 _ zhC zhL; (try k_lt zl1); (try k_sweep); clear zhC zhL) | (refine goOn ?_; with_reducible rename Fr _ _ _ _ => kFq; with_reducible rename News _ _ _ _ => kNq; k_dflt (refine' appD kFq kNq ?zqo ?zqz ?_; (case zqo => first | exact offOne (by assumption) | exact offNil | assumption); (case zqz => first | assumption | omega)); intro _ _ _; clear kFq kNq) | fail); (try k_steps))
        · rename ¬ _ = _ => hc
          rename val _ _ = ite _ _ _ => hvm
          rename val _ _ = x * _ + y * _ => hve
          exact (hc (Row.inj hB1 (by with_reducible assumption) (by with_reducible assumption) (by rw [hve]; exact mid_eq hv1 hv2 hv3 hvm))).elim
      · rename ¬ _ = _ => hc
        rename val _ _ = _ + _ ^ _ * _ + _ ^ _ * _ => hvp
        rename val _ _ = x + md * hf + _ => hvd
        exact (hc (Row.inj hB1 (by with_reducible assumption) (by with_reducible assumption) (by rw [hvd]; exact due_eq hhf hs0 hVx hVy hVm hvp))).elim
)
end
end Mine
theorem PySem.Challenge.cw_nn0003_01_holds : PySem.Challenge.rw_nn0003_01.Holds := by
  exact Mine.law_holds
