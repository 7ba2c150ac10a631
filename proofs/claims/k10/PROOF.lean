import PyProof.Rows.All
import Wide.All
import OpenK.AllK
import Wide.FinOn
import HandS.ForMost
import HandS.Star
import HandS.Defaults
import KE.KStar
import HandS.Style
import HandS.Text
import KE.LtData
import KE.DataCmp
import PyProof.StrBlock2
import HandS.ExcField
import HandS.ExcIs
import HandS.Slots
import HandS.ClsMeth
import HandS.Property
import HandS.SlotsOwn
import PyProof.NeData
import HandS.Deep
import HandS.IsInst
import HandS.TupAny
import HandS.Wide
import KE.SortData
import HandS.Exc
import HandS.WordsExc
import HandS.TryOnly
import HandS.TryMany
import KE.KExcSuper
import KE.KExcInit
import KE.KSuper
import HandS.ExcInit
import HandS.Words
import HandS.Flow
import HandS.HeadEnd
import KE.DataEq
import PySem.Challenge.RW_markedblocks_k10_places_made
section
set_option Elab.async false
set_option linter.all false
set_option maxRecDepth 100000
set_option maxHeartbeats 1000000
set_option autoImplicit false
/-! B1: how a call's arguments come to a def's parameters. -/
namespace Y
open PySem L2
/-- what a def takes: positional ones, keyword-only ones, a star's name -/
structure Sig where
  pos : List Str
  kwo : List Str
  va : Option Str
deriving DecidableEq
def Sig.ps (g : Sig) : List Str := g.pos ++ g.kwo ++ g.va.toList
section
variable {α : Type}
def kwOk (g : Sig) : List (Str × α) → List (Str × α) → Bool
  | _, [] => true
  | sl, (k, v) :: r => (g.pos.contains k || g.kwo.contains k) && (sl.lookup k).isNone && kwOk g (sl ++ [(k, v)]) r
def fillD : List (Str × α) → List (Str × α) → List (Str × α)
  | sl, [] => sl
  | sl, (n, d) :: r => fillD (if (sl.lookup n).isNone then sl ++ [(n, d)] else sl) r
def fillK (kwd : List (Str × α)) : List (Str × α) → List Str → Option (List (Str × α))
  | sl, [] => some sl
  | sl, n :: r => if (sl.lookup n).isNone then (match kwd.lookup n with
    | some v => fillK kwd (sl ++ [(n, v)]) r
    | none => none) else fillK kwd sl r
def pickG (sl : List (Str × α)) : List Str → Option (List α)
  | [] => some []
  | n :: r => match sl.lookup n, pickG sl r with
    | some v, some vs => some (v :: vs)
    | _, _ => none
/-- the values of the positional and keyword-only parameters -/
def bindG (g : Sig) (dfl : List α) (kwd : List (Str × α)) (us : List α) (kw : List (Str × α)) : Option (List α) :=
  if (decide (us.length ≤ g.pos.length) || g.va.isSome) && kwOk g (g.pos.zip us) kw && decide (dfl.length ≤ g.pos.length) && ((g.pos.take (g.pos.length - dfl.length)).all fun n => ((g.pos.zip us ++ kw).lookup n).isSome) then
    (fillK kwd (fillD (g.pos.zip us ++ kw) ((g.pos.drop (g.pos.length - dfl.length)).zip dfl)) g.kwo).bind fun sl => pickG sl (g.pos ++ g.kwo)
  else none
end
/-! ### the same of related values -/
section
variable {α β : Type} {R : α → β → Prop}
inductive AllR (R : α → β → Prop) : List α → List β → Prop
  | nil : AllR R [] []
  | cons {a : α} {b : β} {as : List α} {bs : List β} : R a b → AllR R as bs → AllR R (a :: as) (b :: bs)
inductive AllK (R : α → β → Prop) : List (Str × α) → List (Str × β) → Prop
  | nil : AllK R [] []
  | cons {n : Str} {a : α} {b : β} {as : List (Str × α)} {bs : List (Str × β)} : R a b → AllK R as bs → AllK R ((n, a) :: as) ((n, b) :: bs)
theorem AllR.length : ∀ {a : List α} {b : List β}, AllR R a b → a.length = b.length
  | _, _, .nil => rfl
  | _, _, .cons _ t => congrArg Nat.succ (AllR.length t)
theorem AllK.app : ∀ {a a' : List (Str × α)} {b b' : List (Str × β)}, AllK R a b → AllK R a' b' → AllK R (a ++ a') (b ++ b')
  | _, _, _, _, .nil, q => q
  | _, _, _, _, .cons r t, q => .cons r (AllK.app t q)
theorem AllR.drop : ∀ (n : Nat) {a : List α} {b : List β}, AllR R a b → AllR R (a.drop n) (b.drop n)
  | 0, _, _, h => h
  | n + 1, _, _, .nil => .nil
  | n + 1, _, _, .cons _ t => AllR.drop n t
theorem AllK.zip : ∀ (ns : List Str) {a : List α} {b : List β}, AllR R a b → AllK R (ns.zip a) (ns.zip b)
  | [], _, _, _ => .nil
  | _ :: _, _, _, .nil => .nil
  | n :: ns, _, _, .cons r t => .cons r (AllK.zip ns t)
theorem AllK.look (x : Str) : ∀ {a : List (Str × α)} {b : List (Str × β)}, AllK R a b → (a.lookup x = none ∧ b.lookup x = none) ∨ ∃ u v, a.lookup x = some u ∧ b.lookup x = some v ∧ R u v
  | _, _, .nil => .inl ⟨rfl, rfl⟩
  | _, _, .cons (n := n) (a := a) (b := b) r t => by
    rw [List.lookup_cons, List.lookup_cons]
    cases x == n with
    | true => exact .inr ⟨_, _, rfl, rfl, r⟩
    | false => exact AllK.look x t
theorem AllK.kwOk {g : Sig} : ∀ {a a' : List (Str × α)} {b b' : List (Str × β)}, AllK R a b → AllK R a' b' → Y.kwOk g a a' = Y.kwOk g b b'
  | _, _, _, _, _, .nil => rfl
  | _, _, _, _, h, .cons (n := n) r t => by
    have ih := AllK.kwOk (g := g) (h.app (.cons (n := n) r .nil)) t
    rcases h.look n with ⟨e1, e2⟩ | ⟨u, v, e1, e2, _⟩
    · unfold Y.kwOk; rw [e1, e2, ih]; rfl
    · unfold Y.kwOk; rw [e1, e2, ih]; rfl
theorem AllK.fillD : ∀ {d : List (Str × α)} {d' : List (Str × β)} {a : List (Str × α)} {b : List (Str × β)}, AllK R d d' → AllK R a b → AllK R (Y.fillD a d) (Y.fillD b d')
  | _, _, _, _, .nil, h => h
  | _, _, _, _, .cons (n := n) r t, h => by
    rcases h.look n with ⟨e1, e2⟩ | ⟨u, v, e1, e2, _⟩
    · simp only [Y.fillD, e1, e2, Option.isNone, if_true]
      exact AllK.fillD t (h.app (.cons r .nil))
    · simp only [Y.fillD, e1, e2, Option.isNone, Bool.false_eq_true, if_false]
      exact AllK.fillD t h
theorem AllK.fillK {k : List (Str × α)} {k' : List (Str × β)} (hk : AllK R k k') : ∀ (ns : List Str) {a : List (Str × α)} {b : List (Str × β)} {x : List (Str × α)}, AllK R a b → Y.fillK k a ns = some x → ∃ y, Y.fillK k' b ns = some y ∧ AllK R x y
  | [], _, b, _, h, e => by
    cases e
    exact ⟨b, rfl, h⟩
  | n :: ns, a, b, x, h, e => by
    unfold Y.fillK at e ⊢
    rcases h.look n with ⟨e1, e2⟩ | ⟨u, v, e1, e2, _⟩
    · rw [e1] at e
      rw [e2]
      simp only [Option.isNone, if_true] at e ⊢
      rcases hk.look n with ⟨e3, e4⟩ | ⟨u, v, e3, e4, r⟩
      · rw [e3] at e; cases e
      · rw [e3] at e
        rw [e4]
        exact AllK.fillK hk ns (h.app (.cons r .nil)) e
    · rw [e1] at e
      rw [e2]
      simp only [Option.isNone, Bool.false_eq_true, if_false] at e ⊢
      exact AllK.fillK hk ns h e
theorem AllK.pickG {a : List (Str × α)} {b : List (Str × β)} (h : AllK R a b) : ∀ (ns : List Str) {x : List α}, Y.pickG a ns = some x → ∃ y, Y.pickG b ns = some y ∧ AllR R x y
  | [], _, e => by cases e; exact ⟨[], rfl, .nil⟩
  | n :: ns, x, e => by
    unfold Y.pickG at e
    split at e
    · rename_i v vs e1 e2
      cases e
      rcases h.look n with ⟨e3, _⟩ | ⟨u, w, e3, e4, r⟩
      · rw [e3] at e1; cases e1
      · rw [e3] at e1
        cases e1
        obtain ⟨y, e5, r5⟩ := AllK.pickG h ns e2
        exact ⟨w :: y, by unfold Y.pickG; rw [e4, e5], .cons r r5⟩
    · cases e
theorem bindG_rel {g : Sig} {dfl us : List α} {dfl' us' : List β} {kwd kw : List (Str × α)} {kwd' kw' : List (Str × β)} {x : List α} (h1 : AllR R dfl dfl') (h2 : AllK R kwd kwd') (h3 : AllR R us us') (h4 : AllK R kw kw') (e : bindG g dfl kwd us kw = some x) :
    ∃ y, bindG g dfl' kwd' us' kw' = some y ∧ AllR R x y := by
  unfold bindG at e ⊢
  have hz := AllK.zip g.pos h3
  have hs := hz.app h4
  split at e
  · rename_i hc
    obtain ⟨sl, e1, e2⟩ := Option.bind_eq_some_iff.mp e
    simp only [Bool.and_eq_true, decide_eq_true_eq] at hc
    rw [if_pos]
    · rw [← h1.length]
      obtain ⟨y, e3, r3⟩ := AllK.fillK h2 g.kwo (AllK.fillD (AllK.zip (g.pos.drop (g.pos.length - dfl.length)) h1) hs) e1
      obtain ⟨z, e4, r4⟩ := AllK.pickG r3 (g.pos ++ g.kwo) e2
      exact ⟨z, by rw [e3]; exact e4, r4⟩
    · simp only [Bool.and_eq_true, decide_eq_true_eq]
      refine ⟨⟨⟨?_, ?_⟩, ?_⟩, ?_⟩
      · rw [← h3.length]; exact hc.1.1.1
      · rw [← hz.kwOk h4]; exact hc.1.1.2
      · rw [← h1.length]; exact hc.1.2
      · rw [← h1.length]
        rw [List.all_eq_true] at hc ⊢
        intro n hn
        have := hc.2 n hn
        rcases hs.look n with ⟨e3, e4⟩ | ⟨u, w, e3, e4, r⟩
        · rw [e3] at this; cases this
        · rw [e4]; rfl
  · cases e
end
theorem pickG_len {α : Type} {sl : List (Str × α)} : ∀ {ns : List Str} {x : List α}, pickG sl ns = some x → x.length = ns.length
  | [], _, e => by cases e; rfl
  | n :: ns, x, e => by
    unfold pickG at e
    split at e
    · rename_i v vs e1 e2
      cases e
      exact congrArg Nat.succ (pickG_len e2)
    · cases e
theorem pickG_map {α : Type} {sl : List (Str × α)} : ∀ {ns : List Str} {x : List α}, pickG sl ns = some x → ns.filterMap (fun n => (sl.lookup n).map (n, ·)) = ns.zip x
  | [], _, e => by cases e; rfl
  | n :: ns, x, e => by
    unfold pickG at e
    split at e
    · rename_i v vs e1 e2
      cases e
      rw [List.filterMap_cons, e1]
      show (n, v) :: _ = _
      rw [pickG_map e2]
      rfl
    · cases e
/-! ### the machine's binding -/
def SigOf (g : Sig) (p : Arguments) : Prop := p.posonlyargs = [] ∧ p.args.map (·.arg) = g.pos ∧ p.kwonlyargs.map (·.arg) = g.kwo ∧ p.vararg.map (·.arg) = g.va ∧ p.kwarg = none
end Y
end
section
set_option Elab.async false
set_option linter.all false
set_option maxRecDepth 100000
set_option maxHeartbeats 1000000
set_option autoImplicit false
namespace Y
open PySem L2
section
variable {M : Model} {A : Around} {E : Value → Shared → Prop} {s : Shared} {K : PySem.W.Frag}
/-- what K holds of a def's defaults, as values -/
def DflU (K : PySem.W.Frag) (fd : FuncData) (dfl : List Value) (kwd : List (Str × Value)) : Prop :=
  ((fd.defaults = .none ∧ dfl = []) ∨ ∃ (T : Addr) (o : Obj) (its : Array Value) (n : Nat), fd.defaults = .ref T ∧ K.lookup T = some o ∧ o.data = .seq its n ∧ its.toList = dfl) ∧
  ∀ n v, kwd.lookup n = some v → ∃ D : Addr, fd.kwdefaults = .ref D ∧ PySem.W.nsIn K D n = some (some v)
theorem kw_loop {g : Sig} {f : (Str × Value) → List (Str × Value) × List (Str × Value) → Sem (ForInStep (List (Str × Value) × List (Str × Value)))}
    (hf : ∀ k v sl ex, (g.pos.contains k || g.kwo.contains k) = true → (sl.lookup k).isNone = true → f (k, v) (sl, ex) = pure (.yield (sl ++ [(k, v)], ex))) {Q : List (Str × Value) × List (Str × Value) → Shared → Prop} :
    ∀ (kw : List (Str × Value)) (sl : List (Str × Value)), kwOk g sl kw = true → Q (sl ++ kw, []) s → wpAny M A (forIn kw (sl, ([] : List (Str × Value))) f) Q E s
  | [], sl, _, h => by rw [List.forIn_nil]; exact wpAny_pure (by simpa using h)
  | (k, v) :: r, sl, hk, h => by
    unfold kwOk at hk
    simp only [Bool.and_eq_true] at hk
    rw [List.forIn_cons, hf k v sl [] hk.1.1 hk.1.2]
    exact wpAny_bind (wpAny_pure (kw_loop hf r _ hk.2 (by simpa using h)))
theorem fd_loop {f : (Str × Value) → List (Str × Value) → Sem (ForInStep (List (Str × Value)))}
    (hf : ∀ k v sl, f (k, v) sl = pure (.yield (if (sl.lookup k).isNone = true then sl ++ [(k, v)] else sl))) {Q : List (Str × Value) → Shared → Prop} :
    ∀ (ds : List (Str × Value)) (sl : List (Str × Value)), Q (fillD sl ds) s → wpAny M A (forIn ds sl f) Q E s
  | [], sl, h => by rw [List.forIn_nil]; exact wpAny_pure h
  | (k, v) :: r, sl, h => by
    rw [List.forIn_cons, hf k v sl]
    exact wpAny_bind (wpAny_pure (fd_loop hf r _ h))
theorem fk_loop {kwd : List (Str × Value)} {f : Str → List (Str × Value) × List Str → Sem (ForInStep (List (Str × Value) × List Str))}
    (hf1 : ∀ k v sl Q', (sl.lookup k).isNone = true → kwd.lookup k = some v → Q' (.yield (sl ++ [(k, v)], [])) s → wpAny M A (f k (sl, [])) Q' E s) (hf2 : ∀ k sl, (sl.lookup k).isNone = false → f k (sl, []) = pure (.yield (sl, []))) {Q : List (Str × Value) × List Str → Shared → Prop} :
    ∀ (ns : List Str) (sl x : List (Str × Value)), fillK kwd sl ns = some x → Q (x, []) s → wpAny M A (forIn ns (sl, ([] : List Str)) f) Q E s
  | [], sl, x, e, h => by
    cases e
    rw [List.forIn_nil]
    exact wpAny_pure h
  | k :: r, sl, x, e, h => by
    unfold fillK at e
    rw [List.forIn_cons]
    split at e
    · rename_i hn
      split at e
      · rename_i v hv
        exact wpAny_bind (hf1 k v sl _ hn hv (fk_loop hf1 hf2 r _ _ e h))
      · cases e
    · rename_i hn
      rw [hf2 k sl (by simpa using hn)]
      exact wpAny_bind (wpAny_pure (fk_loop hf1 hf2 r _ _ e h))
theorem dfl_items {fd : FuncData} {dfl : List Value} {kwd : List (Str × Value)} {Q : Option (Array Value) → Shared → Prop} (hd : DflU K fd dfl kwd) (X : K.In s.heap) (h : ∀ o : Option (Array Value), (o.getD #[]).toList = dfl → Q o s) : wpAny M A (seqItems? fd.defaults) Q E s := by
  rcases hd.1 with ⟨e1, e2⟩ | ⟨T, o, its, n, e1, e2, e3, e4⟩
  · rw [e1]
    have z : seqItems? .none = (pure none : Sem (Option (Array Value))) := by rfl
    rw [z]
    exact wpAny_pure (h none (by rw [e2]; rfl))
  · rw [e1]
    exact wpAny_seqItems (X _ _ e2) e3 (h (some its) e4)
theorem wp_bind {g : Sig} {fd : FuncData} {dfl us ws : List Value} {kwd kw : List (Str × Value)} {Q : List (Str × Value) → Shared → Prop} (hp : SigOf g fd.params) (hd : DflU K fd dfl kwd) (X : K.In s.heap) (e : bindG g dfl kwd us kw = some ws)
    (h : match g.va with
      | none => Q ((g.pos ++ g.kwo).zip ws) s
      | some v => wpAny M A (newTuple (us.drop g.pos.length)) (fun t s' => Q ((g.pos ++ g.kwo).zip ws ++ [(v, t)]) s') E s) : wpAny M A (bindArgs fd ⟨us, kw⟩) Q E s := by
  obtain ⟨p1, p2, p3, p4, p5⟩ := hp
  unfold bindG at e
  split at e
  rotate_left
  · cases e
  rename_i hc
  simp only [Bool.and_eq_true, decide_eq_true_eq, Bool.or_eq_true] at hc
  obtain ⟨⟨⟨c1, c2⟩, c3⟩, c4⟩ := hc
  obtain ⟨sl2, e1, e2⟩ := Option.bind_eq_some_iff.mp e
  have hmap := pickG_map e2
  have hva : (decide (us.length > g.pos.length) && fd.params.vararg.isNone) = false := by
    rcases c1 with c1 | c1
    · rw [decide_eq_false (by omega)]; rfl
    · rw [← p4] at c1
      cases q : fd.params.vararg with
      | none => rw [q] at c1; cases c1
      | some a => simp
  unfold bindArgs
  simp only [p1, p2, p3, p5, List.map_nil, List.nil_append]
  refine wpAny_bind (kw_loop (g := g) (fun k v sl ex h1 h2 => ?_) kw _ c2 ?_)
  · simp only [h1, if_true]
    rw [if_neg (by rw [Option.isNone_iff_eq_none.mp h2]; simp)]
  refine wpAny_bind (dfl_items hd X fun o ho => ?_)
  dsimp only
  rw [ho, hva, show dfl.length - g.pos.length = 0 from by omega, List.drop_zero]
  have hm : (List.filter (fun n => (List.lookup n (g.pos.zip us ++ kw)).isNone) (List.take (g.pos.length - dfl.length) g.pos)) = [] := by
    rw [List.filter_eq_nil_iff]
    intro n hn
    have := (List.all_eq_true.mp c4) n hn
    simp only [Option.isSome_iff_ne_none] at this
    simpa using this
  simp only [hm, Bool.false_eq_true, if_false, List.isEmpty_nil, Bool.not_true]
  refine wpAny_bind (fd_loop (fun k v sl => ?_) _ _ ?_)
  · by_cases hk : (List.lookup k sl).isNone = true
    · simp only [hk, if_true]
    · simp only [hk, if_false]; rfl
  refine wpAny_bind (fk_loop (fun k v sl Q' h1 h2 hq => ?_) (fun k sl h1 => ?_) _ _ _ e1 ?_)
  · obtain ⟨D, e3, e4⟩ := hd.2 k v h2
    simp only [h1, if_true, e3]
    exact wpAny_bind (PySem.W.looks_nsIn X e4 _ _ _ _ (fun _ _ z => z) (wpAny_pure hq))
  · simp only [h1, Bool.false_eq_true, if_false]
  simp only [List.isEmpty_nil, Bool.not_true, Bool.false_eq_true, if_false, hmap]
  rw [← p4] at h
  cases q : fd.params.vararg with
  | none =>
    rw [q] at h
    exact wpAny_pure h
  | some a =>
    rw [q] at h
    exact wpAny_bind (wpAny_mono h (fun t s' hq => wpAny_pure hq) fun _ _ z => z)
end
end Y
end
section
set_option Elab.async false
set_option linter.all false
set_option maxRecDepth 100000
set_option maxHeartbeats 1000000
set_option autoImplicit false
/-! B3: a call's node, with any arguments. -/
namespace Y
open PySem PySem.W
section
variable {M : Model} {A : Around} {E : Value → Shared → Prop} {s : Shared}
def notLone : List (Bool × Sem Value) → Bool
  | [(true, _)] => false
  | _ => true
theorem ea_many {f : Value} {args : List (Bool × Sem Value)} {kws : List (Option Str × Sem Value)} {Q : Args → Shared → Prop} (hn : notLone args = true) (hall : kws.all (·.1.isSome) = true)
    (h : wpAny M A (spliced args) (fun vs s1 => wpAny M A (evalAll (kws.map (·.2))) (fun ks s2 => Q ⟨vs, (kws.filterMap (·.1)).zip ks⟩ s2) E s1) E s) : wpAny M A (evalArgs f true args kws) Q E s := by
  unfold evalArgs
  have tail : ∀ (vs : List Value) (s1 : Shared), wpAny M A (evalAll (kws.map (·.2))) (fun ks s2 => Q ⟨vs, (kws.filterMap (·.1)).zip ks⟩ s2) E s1 →
      wpAny M A (evalAll (kws.map (·.2)) >>= fun ks => (pure (⟨vs, (kws.filterMap (·.1)).zip ks⟩ : Args) : Sem Args)) Q E s1 := fun vs s1 q => wpAny_bind (wpAny_mono q (fun ks s2 z => wpAny_pure z) fun _ _ z => z)
  match args, hn with
  | [], _ =>
    simp only [hall, if_true]
    exact wpAny_bind (wpAny_mono h (fun vs s1 q => wpAny_bind (wpAny_pure (wpAny_holding (tail vs s1 q)))) fun _ _ z => z)
  | [(false, x)], _ =>
    simp only [hall, if_true]
    exact wpAny_bind (wpAny_mono h (fun vs s1 q => wpAny_bind (wpAny_pure (wpAny_holding (tail vs s1 q)))) fun _ _ z => z)
  | (b, x) :: y :: r, _ =>
    simp only [hall, if_true]
    exact wpAny_bind (wpAny_mono h (fun vs s1 q => wpAny_bind (wpAny_pure (wpAny_holding (tail vs s1 q)))) fun _ _ z => z)
theorem ea_lone {f : Value} {x : Sem Value} {pos : Pos} {kws : List (Option Str × Sem Value)} {Q : Args → Shared → Prop} (hall : kws.all (·.1.isSome) = true)
    (h : wpAny M A x (fun v s1 => wpAny M A (evalAll (kws.map (·.2))) (fun ks s2 => StarOf M A E v (fun vs s3 => Q ⟨vs, (kws.filterMap (·.1)).zip ks⟩ s3) s2) E s1) E s) :
    wpAny M A (evalArgs f true [(true, (do let v ← x; standAt pos; pure v))] kws) Q E s := by
  unfold evalArgs
  simp only [hall, if_true]
  refine wpAny_bind (wpAny_bind (wpAny_mono h (fun v s₁ h₁ => wpAny_bind (wpAny_standAt (wpAny_pure (wpAny_bind (wpAny_pure ?_))))) fun _ _ x => x))
  refine wpAny_holding ?_
  refine wpAny_bind (wpAny_mono h₁ (fun ks s2 h2 => ?_) fun _ _ z => z)
  unfold StarOf at h2
  refine wpAny_bind (wpAny_bind (wpAny_mono h2 (fun b s3 h3 => ?_) fun _ _ z => z))
  obtain ⟨rfl, h3⟩ := h3
  simp only [Bool.false_eq_true, if_false]
  exact wpAny_holding (wpAny_mono h3 (fun vs s4 h4 => (wpAny_pure h4 : wpAny M A (pure (⟨vs, (kws.filterMap (·.1)).zip ks⟩ : Args)) Q E s4)) fun _ _ x => x)
theorem callWith_any {f : Value} {first : List Value} {pos : Pos} {Q : Value → Shared → Prop} {P : Heap → Prop} {args : List (Bool × Sem Value)} {kws : List (Option Str × Sem Value)} (hall : kws.all (·.1.isSome) = true)
    (hk : ∀ h, P h → ∃ k, (k = Keeper.frame ∨ k = Keeper.machine ∨ k = Keeper.boundFrame) ∧ Looks M h (keeperOf f) k)
    (h : wpAny M A (evalArgs f true args kws) (fun a s₁ => P s₁.heap ∧ wpAny M A (call f (first ++ a.pos) a.kw) Q E s₁) E s) : wpAny M A (callWith pos f first args kws) Q E s := by
  cases hst : args.any (·.1) with
  | false =>
    refine callWith_of ?_ hk h
    rw [hst, Bool.false_or]
    rw [List.any_eq_false]
    intro y hy
    have := List.all_eq_true.mp hall y hy
    rw [Option.isSome_iff_ne_none] at this
    simpa using this
  | true =>
    unfold callWith
    refine wpAny_bind (wpAny_holding (wpAny_mono h (fun a s₁ h₁ => wpAny_bind (wpAny_standAt ?_)) fun _ _ x => x))
    obtain ⟨k, hk', L⟩ := hk _ h₁.1
    simp only [hst, Bool.true_or]
    refine wpAny_bind (L.here ?_)
    have tail : ∀ {t : Sem Value}, wpAny M A t Q E s₁ → wpAny M A (t >>= fun r => holding [r] point >>= fun _ => pure r) Q E s₁ :=
      fun ht => wpAny_bind (wpAny_mono ht (fun r s₂ hr => wpAny_bind (wpAny_holding (wpAny_point (wpAny_pure hr)))) fun _ _ x => x)
    have marked (mk : Value) : wpAny M A (callMarked mk f (first ++ a.pos) a.kw) Q E s₁ := by unfold callMarked; exact Calls.wpAny_keep h₁.2
    rcases hk' with rfl | rfl | rfl <;> dsimp only <;> first | exact tail (marked _) | exact tail (wpAny_operating h₁.2)
end
end Y
end
section
set_option Elab.async false
set_option linter.all false
set_option maxRecDepth 100000
set_option maxHeartbeats 1000000
set_option autoImplicit false
/-! B4: a def's promise, however its arguments are bound. -/
namespace Y
open PySem PySem.Spec PyProof.Rows L2
section
variable {P : Program} {w : World} {K : PySem.W.Frag} {mg : Str → Option Value} {base : Heap} {CX : CXT} {k : Nat} {f : Addr} {fd : FuncData} {ps : List Str} {sp : Sp}
/-- the def at f keeps sp -/
def FnU (P : Program) (w : World) (K : PySem.W.Frag) (mg : Str → Option Value) (base : Heap) (CX : CXT) (k : Nat) (f : Addr) (fd : FuncData) (ps : List Str) (sp : Sp) : Prop :=
  ∀ (A : Around) (outer : List Env) (s : Shared) (H : Hp) (args : Args) (Q : VK) (E : XK) (G : List V → Hp → Prop), Room k A → Env0 P w K mg base A outer s H → StX.Bnd CX P w K mg base fd args ps A outer s H E G →
    (∀ vs H2, G vs H2 → sp vs H2 Q E) → codeAny (model P w) A (.call (.ref f) args) (CR CX outer P w H s Q E) s
theorem FnU.mono {j : Nat} (F : FnU P w K mg base CX j f fd ps sp) (h : j ≤ k) : FnU P w K mg base CX k f fd ps sp := fun A outer s H args Q E G hr => F A outer s H args Q E G (hr.mono h)
theorem FnU.mk {name qual : Str} {params : Arguments} {body : List Stmt} {scope : Scope} {dV kV doc pm cdv ct oc : Value} {an od : Option Addr} {osl : Array (Option Value)} {N : List Str}
    (lk : K.lookup f = some ⟨oc, od, .func (PySem.W.fnOf name qual params body scope dV kV doc pm an cdv ct), osl⟩) (hcd : PySem.W.codeIn K cdv qual = true) (S : FnScope N ps scope)
    (hbody : ∀ (A : Around) (outer : List Env) (s : Shared) (H : Hp) (vs : List V) (Q : VK) (E : XK), Room k (A.deeper (envOfC qual scope s.heap.objs.size f cdv)) → sp vs H Q E →
      ∃ t, PSs (cxOf CX P w K mg base N qual scope f cdv A outer s H E) body t ∧ t { nx := fun _ H' => Q .non H', rt := Q } (start N vs) H) : FnU P w K mg base CX (k + 1) f (PySem.W.fnOf name qual params body scope dV kV doc pm an cdv ct) ps sp :=
  fun A outer s H args Q E G hr e0 hb hG => StX.run_bnd lk hcd S hr e0 hb fun s2 H2 vs g hr' => hbody A outer s2 H2 vs Q E hr' (hG vs H2 g)
/-- bound without any new object -/
theorem bnd_of {args : Args} {A : Around} {outer : List Env} {s : Shared} {H : Hp} {E : XK} {us : List Value} {vs : List V} (e0 : Env0 P w K mg base A outer s H) (hb : BindsTo s fd args (ps.zip us)) (r : Vals vs us) (hl : vs.length = ps.length) :
    StX.Bnd CX P w K mg base fd args ps A outer s H E (fun vs' H2 => vs' = vs ∧ H2 = H) := fun A' Ex Q h => hb _ _ _ _ (h s H vs us e0 Un.refl rfl (fun _ _ z => z) r hl ⟨rfl, rfl⟩)
theorem FnU.ok (F : FnU P w K mg base CX k f fd ps sp) (len : ∀ vs H Q E, sp vs H Q E → vs.length = ps.length) : FnOk P w K mg base CX k f fd ps sp :=
  ⟨len, fun A outer s H args us vs Q E hr e0 hb r h => F A outer s H args Q E _ hr e0 (bnd_of e0 hb r (len _ _ _ _ h)) fun vs' H2 ⟨e1, e2⟩ => by subst e1 e2; exact h⟩
theorem allR_vals : ∀ {vs : List V} {us : List Value}, Vals vs us → AllR RelV vs us
  | _, _, .nil => .nil
  | _, _, .cons r t => .cons r (allR_vals t)
theorem vals_allR : ∀ {vs : List V} {us : List Value}, AllR RelV vs us → Vals vs us
  | _, _, .nil => .nil
  | _, _, .cons r t => .cons r (vals_allR t)
theorem bindG_len {α : Type} {g : Sig} {dfl us x : List α} {kwd kw : List (Str × α)} (e : bindG g dfl kwd us kw = some x) : x.length = (g.pos ++ g.kwo).length := by
  unfold bindG at e
  split at e
  · obtain ⟨sl, e1, e2⟩ := Option.bind_eq_some_iff.mp e
    exact pickG_len e2
  · cases e
/-- what a def takes, as K holds it -/
structure SigOk (K : PySem.W.Frag) (fd : FuncData) (g : Sig) (dfl : List V) (kwd : List (Str × V)) : Prop where
  of : SigOf g fd.params
  df : ∃ du ku, DflU K fd du ku ∧ AllR RelV dfl du ∧ AllK RelV kwd ku
/-- bound by the signature -/
def BndG (g : Sig) (H : Hp) (ws rest : List V) : List V → Hp → Prop := fun vs H2 => match g.va with
  | none => vs = ws ∧ H2 = H
  | some _ => ∃ p, H p = none ∧ vs = ws ++ [.ref p] ∧ H2 = upd H p (.tup rest)
theorem bnd_sig (hCX : StX.CXUp CX) {g : Sig} {dfl vs ws : List V} {kwd kvs : List (Str × V)} {us : List Value} {kw : List (Str × Value)} {A : Around} {outer : List Env} {s : Shared} {H : Hp} {E : XK} (S : SigOk K fd g dfl kwd) (e0 : Env0 P w K mg base A outer s H)
    (r : Vals vs us) (rk : AllK RelV kvs kw) (e : bindG g dfl kwd vs kvs = some ws) (hz : (vs.drop g.pos.length).length ≤ sizeLine) : StX.Bnd CX P w K mg base fd ⟨us, kw⟩ g.ps A outer s H E (BndG g H ws (vs.drop g.pos.length)) := by
  obtain ⟨of, du, ku, hd, r1, r2⟩ := S
  obtain ⟨wu, e2, r3⟩ := bindG_rel r1 r2 (allR_vals r) rk e
  have r3' := vals_allR r3
  have hlen := bindG_len e
  have hlen2 := bindG_len e2
  have KX : K.In s.heap := e0.mod.kin.keeps fun b o q => (e0.bs b o q).1
  intro A' Ex Q h
  refine wp_bind of hd KX e2 ?_
  cases q : g.va with
  | none =>
    have := h s H ws wu e0 Un.refl rfl (fun _ _ z => z) r3' (by unfold Sig.ps; rw [q]; simpa using hlen) (by unfold BndG; rw [q]; exact ⟨rfl, rfl⟩)
    unfold Sig.ps at this
    rw [q] at this
    simpa using this
  | some v =>
    have hn : H s.heap.objs.size = Option.none := e0.hok.fresh (Nat.le_refl _)
    have hl2 : (us.drop g.pos.length).length ≤ sizeLine := by
      rw [List.length_drop, ← r.length]
      rw [List.length_drop] at hz
      exact hz
    refine wpAny_newTuple ?_ hl2
    have rd : Vals (vs.drop g.pos.length) (us.drop g.pos.length) := vals_allR ((allR_vals r).drop _)
    have new : ObjOk P w (upd H s.heap.objs.size (.tup (vs.drop g.pos.length))) (s.heap.push ({ cls := .type "tuple", data := .seq (us.drop g.pos.length).toArray } : Obj)) s.heap.objs.size (.tup (vs.drop g.pos.length)) :=
      ⟨hz, us.drop g.pos.length, rd, ⟨_, Heap.get?_push_size _ rfl, rfl, _, rfl⟩⟩
    have un := StX.un_laid (fs := frs outer) (s := s) (o := ({ cls := .type "tuple", data := .seq (us.drop g.pos.length).toArray } : Obj)) (u := .tup (vs.drop g.pos.length)) hn
    have z := h _ _ (ws ++ [V.ref s.heap.objs.size]) (wu ++ [Value.ref s.heap.objs.size]) (StX.env0_laid e0 new) un rfl (fun e s' => hCX outer s H _ _ E e s' un (fun b o q => Heap.get?_push_of_some _ q) rfl) (r3'.append (.cons rfl .nil))
      (by unfold Sig.ps; rw [q]; simp only [List.length_append] at hlen ⊢; simp [hlen]) (by unfold BndG; rw [q]; exact ⟨_, hn, rfl, rfl⟩)
    unfold Sig.ps at z
    rw [q] at z
    have e5 : (g.pos ++ g.kwo ++ (some v).toList).zip (wu ++ [Value.ref s.heap.objs.size]) = (g.pos ++ g.kwo).zip wu ++ [(v, Value.ref s.heap.objs.size)] := by
      rw [List.zip_append hlen2.symm]; rfl
    rw [e5] at z
    exact z
end
end Y
end
section
set_option Elab.async false
set_option linter.all false
set_option maxRecDepth 100000
/-! Y1: pure values, a small language with its slots resolved, its evaluator. -/
namespace Y
open PySem

/-- what a class has under a name: a def, a classmethod, a staticmethod, a property, a text -/
inductive MR where
  | df (k : Str) | cm (k : Str) | sm (k : Str) | pr (k : Str) | cs (s : Str)
deriving DecidableEq
/-- a class of the text: its fields as they are assigned, their slots' places (none: a dict), what it has under names, its ancestors of the text and itself -/
structure CK where
  cls : Str
  fn : List Str
  sl : Option (List Nat)
  ms : List (Str × MR)
  up : List (Str × Bool)
deriving DecidableEq
/-- a pure value. A list bears a flag: true where this very place holds it alone (it may be changed there) -/
inductive PV where
  | non | bl (b : Bool) | int (i : Int) | str (x : Str) | ty (n : String)
  /-- a def or class of the text, by its key -/
  | fn (k : Str)
  | lst (o : Bool) (xs : List PV)
  /-- a list that is only read (the script) -/
  | lck (xs : List PV)
  | tup (xs : List PV)
  /-- an instance of a class of the text, its fields as far as they are assigned; a class -/
  | obj (o : Bool) (k : CK) (fs : List PV)
  | cl (k : CK)
  /-- a value of which nothing is known -/
  | opq

-- nothing in it is held alone
mutual
def PV.fz : PV → Bool
  | .lst o xs => !o && PV.fzL xs
  | .obj o _ xs => !o && PV.fzL xs
  | .lck xs => PV.fzL xs
  | .tup xs => PV.fzL xs
  | _ => true
def PV.fzL : List PV → Bool
  | [] => true
  | x :: r => x.fz && PV.fzL r
end
-- .. made so
mutual
def PV.frz : PV → PV
  | .lst _ xs => .lst false (PV.frzL xs)
  | .obj _ k xs => .obj false k (PV.frzL xs)
  | .lck xs => .lck (PV.frzL xs)
  | .tup xs => .tup (PV.frzL xs)
  | .non => .non | .bl b => .bl b | .int i => .int i | .str x => .str x | .ty n => .ty n | .fn k => .fn k | .cl k => .cl k | .opq => .opq
def PV.frzL : List PV → List PV
  | [] => []
  | x :: r => x.frz :: PV.frzL r
end
-- as data that == reads
mutual
def PV.dat : PV → Option PyData
  | .non => some .none
  | .bl b => some (.bool b)
  | .int i => some (.int i)
  | .str x => some (.str x)
  | .lst _ xs => (PV.datL xs).map .list
  | .lck xs => (PV.datL xs).map .list
  | .tup xs => (PV.datL xs).map .tuple
  | _ => none
def PV.datL : List PV → Option (List PyData)
  | [] => some []
  | x :: r => match x.dat, PV.datL r with
    | some d, some ds => some (d :: ds)
    | _, _ => none
end

abbrev Fr := List (Option PV)
/-- a class of exceptions of the text: its fields; which of the text's classes it is of; which built-in ones -/
structure XD where
  cls : Str
  fs : List Str
  rel : List (Str × Bool)
  ty : List (String × Bool)
deriving DecidableEq
/-- an exception of the text: its class, its fields -/
structure PX where
  xd : XD
  fs : List (Str × PV)
abbrev PX.cls (x : PX) : Str := x.xd.cls
inductive Res (α : Type) where
  | ok (a : α) (ρ : Fr)
  | ex (x : PX) (ρ : Fr)
  | bad
inductive Fl where
  | nx | bk | ct
  | rt (p : PV)
/-- a call's end: what it gives, its parameters' slots behind it -/
inductive CR where
  | ok (r : PV) (as : Fr)
  | ex (x : PX) (as : Fr)
  | bad
def Res.bind {α β : Type} (r : Res α) (f : α → Fr → Res β) : Res β := match r with
  | .ok a ρ => f a ρ
  | .ex x ρ => .ex x ρ
  | .bad => .bad

/-- operations on values that are read -/
inductive Op where
  | bin (op : Operator) | cmp (op : CmpOp)
  | neg | not
  | ix | slice (lo hi : Bool) | back
  | len | list | tuple | int | str | all | any | sum | max | sorted
  | isi
  | join | split
  | min2
  /-- list.index; sorted(set(..)), len(set(..)); max(.., default=..); isinstance of a class of the text -/
  | index | sset | lset | maxd | isk

/-- where a parameter's value comes from: an argument, a default -/
inductive Src where
  | a (i : Nat) | d (p : PV)
-- the language. loc i: a name (read where an operation reads, else copied); mov i: a name that is handed out for good
mutual
inductive IE where
  | cst (p : PV)
  | loc (i : Nat) | mov (i : Nat)
  | op (f : Op) (es : List IE)
  | chain (f g : CmpOp) (a b d : IE)
  /-- a comparison whose sides may be displays (false a list's, true a tuple's), which are read and thrown away -/
  | dcmp (f : CmpOp) (t : Option Bool) (es : List IE) (u : Option Bool) (ds : List IE)
  | slc (e a b : IE)
  | and (a b : IE) | or (a b : IE)
  | ite (t a b : IE)
  | lst (es : List IE) | tup (es : List IE)
  | call (k : Str) (ls : List Bool) (es : List IE)
  /-- a call of any form: which arguments are starred; which may be lent; the arguments, keywords' last; the parameters' values; what a star parameter takes -/
  | cal (h : CH) (st ls : List Bool) (es : List IE) (ss : List Src) (rs : Option (Nat × Nat))
  /-- e.f; a display (true: a tuple) with stars; a operated with b by an own method; a == b by an own one; {..}[k]; the exception that is held, as a value -/
  | fld (e : IE) (f : Str)
  | dsp (t : Bool) (st : List Bool) (es : List IE)
  | dun (m : Str) (a b : IE)
  | has (a b : IE)
  /-- a.index(b) -/
  | lidx (a b : IE)
  | oeq (ng : Bool) (a b : IE)
  | dsel (ks : List Str) (es : List IE) (k : IE)
  | hx
  /-- a comprehension of two clauses -/
  | comp2 (elt : IE) (tg : IT) (src : ISrc) (tg2 : IT) (src2 : ISrc) (ifs : List IE) (own : List Nat)
  | comp (elt : IE) (tg : IT) (src : ISrc) (ifs : List IE) (own : List Nat)
  /-- .. over the list that stands in a slot, as it stands at each turn -/
  | compv (elt : IE) (tg : IT) (i : Nat) (ifs : List IE) (own : List Nat)
  /-- a field of the exception that is held; isinstance of it -/
  | xf (f : Str) | xi (T : String)
  /-- a tuple whose items stay held alone; the item k of the tuple in slot i, read -/
  | tupo (es : List IE) | it (i k : Nat)
inductive IT where
  | nm (i : Nat) | tp (ts : List IT)
inductive CH where
  /-- a def; a class; the class in slot i; super().__init__; e.m (of some classes); e called -/
  | fn (k : Str) | new (k : CK) | newv (i : Nat) (k : CK) | sup (k : Str) | mth (e : IE) (m : Str) (cs : Option (List Str)) | ocl (e : IE)
inductive ISrc where
  | it (e : IE) | rng (es : List IE) | enm (e : IE) | zp (a b : IE)
end

mutual
inductive IS where
  | set (i : Nat) (e : IE)
  | asg (tg : IT) (e : IE)
  | par (is : List Nat) (es : List IE)
  | aug (i : Nat) (op : Operator) (e : IE)
  | sub (i : Nat) (ix e : IE)
  | app (i : Nat) (e : IE)
  | ext (i : Nat) (e : IE)
  | exp (e : IE)
  | ret (e : IE) | retN
  | ife (t : IE) (a b : List IS)
  | fors (tg : IT) (src : ISrc) (body : List IS)
  | forv (tg : IT) (i : Nat) (body : List IS)
  | whl (t : IE) (body : List IS)
  | brk | cnt | pas
  | rai (d : XD) (es : List IE)
  /-- raise .. from the exception that is held -/
  | raif (d : XD) (es : List IE)
  /-- slot[i].f = e -/
  | fst (i : Nat) (f : Str) (e : IE)
  | tryx (body : List IS) (hs : IH)
  /-- slot[k].append(x), the slot a tuple's -/
  | appi (i k : Nat) (x : Str)
/-- except clauses: the class, the name's slot -/
inductive IH where
  | nil
  | cons (k : Str) (i : Option Nat) (suite : List IS) (r : IH)
end

/-! ### operations -/
instance (x : Str) (n : Int) : Decidable (MulOk x n) := inferInstanceAs (Decidable (_ ∧ _ ∧ _))
def okS (n : Nat) : Bool := decide (n ≤ sizeLine)
def cdat (p q : PV) : Option (PyData × PyData) := match p.dat, q.dat with
  | some d, some e => if decide (d.depth ≤ 60) then some (d, e) else none
  | _, _ => none
def intsP : List PV → Option (List Int)
  | [] => some []
  | .int i :: r => (intsP r).map (i :: ·)
  | _ => none
def strsP : List PV → Option (List Str)
  | [] => some []
  | .str i :: r => (strsP r).map (i :: ·)
  | _ => none
def boolsP : List PV → Option (List Bool)
  | [] => some []
  | .bl i :: r => (boolsP r).map (i :: ·)
  | _ => none
def flat : PV → Bool
  | .non => true
  | .bl _ => true
  | .int _ => true
  | .str _ => true
  | _ => false
def flatIn (x : PV) (xs : List PV) : Option Bool := match x.dat, PV.datL xs with
  | some d, some ds => some (ds.any fun z => PyData.eqv z d)
  | _, _ => none
def inSeq (x : PV) (xs : List PV) : Option Bool := match x.dat, PV.datL xs with
  | some d, some ds => if decide (PyData.depthAll ds ≤ 60) then some (ds.any fun z => PyData.eqv z d) else none
  | _, _ => none
/-- a < b, by data -/
def ltD (p q : PV) : Option Bool := match p.dat, q.dat with
  | some d, some e => if PySem.W.alike d e && decide (min d.depth e.depth ≤ 64) then some (PySem.W.dataLt d e) else none
  | _, _ => none
def cmpN : CmpOp → PV → PV → Option Bool
  | .Eq, p, q => (cdat p q).map fun z => PyData.eqv z.1 z.2
  | .NotEq, p, q => (cdat p q).map fun z => !PyData.eqv z.1 z.2
  | .Lt, .int i, .int j => some (decide (i < j))
  | .LtE, .int i, .int j => some (decide (i ≤ j))
  | .Gt, .int i, .int j => some (decide (j < i))
  | .GtE, .int i, .int j => some (decide (j ≤ i))
  | .Lt, .str i, .str j => some (decide (i.cps.toList < j.cps.toList))
  | .Lt, .tup xs, .tup ys => ltD (.tup xs) (.tup ys)
  | .LtE, .str i, .str j => some (decide (i.cps.toList ≤ j.cps.toList))
  | .Is, p, .non => (match p with | .non => some true | .opq => none | _ => some false)
  | .IsNot, p, .non => (match p with | .non => some false | .opq => none | _ => some true)
  | .Is, p, .bl b => (match p with | .bl a => some (decide (a = b)) | .opq => none | _ => some false)
  | .IsNot, p, .bl b => (match p with | .bl a => some !(decide (a = b)) | .opq => none | _ => some true)
  | .In, p, .lst _ xs => if flat p && xs.all flat then flatIn p xs else inSeq p xs
  | .In, p, .tup xs => if flat p && xs.all flat then flatIn p xs else inSeq p xs
  | .In, .str i, .str j => some (!(Builtin.Str.occurrences j i 0 j.length 1).isEmpty)
  | .NotIn, p, .lst _ xs => if flat p && xs.all flat then (flatIn p xs).map (!·) else (inSeq p xs).map (!·)
  | .NotIn, p, .tup xs => if flat p && xs.all flat then (flatIn p xs).map (!·) else (inSeq p xs).map (!·)
  | .NotIn, .str i, .str j => some (Builtin.Str.occurrences j i 0 j.length 1).isEmpty
  | _, _, _ => none
def binN : Operator → PV → PV → Option PV
  | .Add, .int i, .int j => some (.int (i + j))
  | .Add, .str i, .str j => if okS (i.length + j.length) then some (.str (i ++ j)) else none
  | .Add, .lst _ xs, .lst _ ys => if okS (xs.length + ys.length) && PV.fzL xs && PV.fzL ys then some (.lst true (xs ++ ys)) else none
  | .Add, .tup xs, .tup ys => if okS (xs.length + ys.length) && PV.fzL xs && PV.fzL ys then some (.tup (xs ++ ys)) else none
  | .Sub, .int i, .int j => some (.int (i - j))
  | .Mult, .int i, .int j => if decide ((-(2 ^ 64) < i ∧ i < 2 ^ 64) ∨ (-(2 ^ 64) < j ∧ j < 2 ^ 64)) then some (.int (i * j)) else none
  | .Mult, .str x, .int n => if decide (MulOk x n) then some (.str (Txt.mul x n)) else none
  | .Mult, .lst _ xs, .int k => if okS (xs.length * k.toNat) && decide (-(2 ^ 63) ≤ k ∧ k < 2 ^ 63) && PV.fzL xs then some (.lst true (List.replicate k.toNat xs).flatten) else none
  | .Mod, .int i, .int j => if decide (0 < j) then some (.int (i % j)) else none
  | .FloorDiv, .int i, .int j => if decide (0 < j ∧ j.natAbs.log2 < 9000) then some (.int (i / j)) else none
  | .Pow, .int i, .int j => if decide (0 ≤ j ∧ j ≤ 1000000 ∧ i.natAbs < 2 ^ 64) then some (.int (i ^ j.toNat)) else none
  | _, _, _ => none
/-- a list's, a tuple's items -/
def seqOf : PV → Option (List PV)
  | .lst _ xs => some xs
  | .lck xs => some xs
  | .tup xs => some xs
  | _ => none
def cutP {α : Type} (xs : List α) (lo hi : Option Int) : List α := (xs.drop (HT.sIx xs.length 0 lo)).take (HT.sIx xs.length xs.length hi - HT.sIx xs.length 0 lo)
def sliceN (p : PV) (lo hi : Option Int) : Option PV := match p with
  | .lst _ xs => if PV.fzL xs then some (.lst true (cutP xs lo hi)) else none
  | .lck xs => if PV.fzL xs then some (.lst true (cutP xs lo hi)) else none
  | .tup xs => if PV.fzL xs then some (.tup (cutP xs lo hi)) else none
  | .str z => if okS z.length then some (.str (L2.cutS z lo hi)) else none
  | _ => none
def partN : PV → Option Int
  | .int i => some i
  | _ => none
def tyN : PV → Option String
  | .non => some "NoneType"
  | .bl _ => some "bool"
  | .int _ => some "int"
  | .str _ => some "str"
  | .lst _ _ => some "list"
  | .tup _ => some "tuple"
  | _ => none
def isiT (t : String) (T : String) : Bool := t == T || (t == "bool" && T == "int")
def maxI : Int → List Int → Int
  | a, [] => a
  | a, b :: r => maxI (if b > a then b else a) r
def strLe (a b : Str) : Bool := decide (a.cps.toList ≤ b.cps.toList)
def ixP : PV → PV → Option PV
  | p, .int i => (match p with
    | .str z => if okS z.length then (L2.atI z.cps.toList i).map fun c => .str ⟨#[c]⟩ else none
    | p => match seqOf p with
      | some xs => (match L2.atI xs i with
        | some x => if x.fz then some x else none
        | none => none)
      | none => none)
  | _, _ => none
def lenP : PV → Option PV
  | .str x => if okS x.length then some (.int x.length) else none
  | p => (seqOf p).map fun xs => .int xs.length
def listP (p : PV) : Option PV := match seqOf p with
  | some xs => if PV.fzL xs then some (.lst true xs) else none
  | none => none
def tupleP : PV → Option PV
  | .lst _ xs => if PV.fzL xs then some (.tup xs) else none
  | .tup xs => if PV.fzL xs then some (.tup xs) else none
  | _ => none
def intP : PV → Option PV
  | .int i => some (.int i)
  | .bl b => some (.int (if b then 1 else 0))
  | _ => none
def strP : PV → Option PV
  | .int i => if decide (i.natAbs.log2 < 1920) then some (.str (toString i)) else none
  | _ => none
def lstOf : PV → Option (List PV)
  | .lst _ xs => some xs
  | _ => none
def maxP (p : PV) : Option PV := match (lstOf p).bind intsP with
  | some (n :: ns) => some (.int (maxI n ns))
  | _ => none
def intLe (a b : Int) : Bool := decide (a ≤ b)
def sortedP (p : PV) : Option PV := (lstOf p).bind fun xs => match intsP xs with
    | some ns => some (.lst true ((ns.mergeSort intLe).map .int))
    | none => (strsP xs).map fun ys => .lst true ((ys.mergeSort strLe).map .str)
def isiOk : List String := ["int", "str", "bool", "list", "tuple"]
def isObj : PV → Bool
  | .obj _ _ _ => true
  | _ => false
def isiP (p q : PV) : Option PV := match q with
  | .ty T => if isiOk.contains T then (match tyN p with
    | some t => some (.bl (isiT t T))
    | none => if isObj p then some (.bl false) else none) else none
  | _ => none
def joinP (p q : PV) : Option PV := match p, (lstOf q).bind strsP with
  | .str z, some ys => if decide ((ys.map (·.length)).sum + ys.length * z.length ≤ 16777216) then some (.str (Txt.join z ys)) else none
  | _, _ => none
/-- isinstance of a class of the text -/
def iskP (p : PV) (c : CK) : Option PV := match p with
  | .obj _ k _ => (k.up.lookup c.cls).map .bl
  | p => (tyN p).map fun _ => .bl false
/-- each once, ascending -/
def onceS : List Str → List Str
  | a :: b :: r => if a = b then onceS (b :: r) else a :: onceS (b :: r)
  | l => l
def ssetS (xs : List Str) : List Str := onceS (xs.mergeSort strLe)
def ssetP (p : PV) : Option PV := ((seqOf p).bind strsP).bind fun ys => if decide (ys.length < 100000) then some (.lst true ((ssetS ys).map .str)) else none
def lsetP (p : PV) : Option PV := ((lstOf p).bind strsP).bind fun ys => if decide (ys.length < 100000) then some (.int (ssetS ys).length) else none
def maxdP (p q : PV) : Option PV := match (lstOf p).bind intsP, q with
  | some (n :: ns), .int _ => some (.int (maxI n ns))
  | some [], .int d => some (.int d)
  | _, _ => none
/-- the first place of an equal item -/
def idxD (d : PyData) : List PyData → Option Nat
  | [] => none
  | z :: r => if PyData.eqv z d then some 0 else (idxD d r).map (· + 1)
def indexP (p q : PV) : Option PV := match (lstOf p).bind PV.datL, q.dat with
  | some ds, some d => if decide (PyData.depthAll ds ≤ 60) then (idxD d ds).map fun (n : Nat) => PV.int (n : Int) else none
  | _, _ => none
def opN : Op → List PV → Option PV
  | .isk, [p, .cl c] => iskP p c
  | .sset, [p] => ssetP p
  | .lset, [p] => lsetP p
  | .maxd, [p, q] => maxdP p q
  | .index, [p, q] => indexP p q
  | .bin o, [p, q] => binN o p q
  | .cmp o, [p, q] => (cmpN o p q).map .bl
  | .neg, [p] => (match p with
    | .int i => some (.int (-i))
    | _ => none)
  | .not, [p] => (match p with
    | .bl b => some (.bl (!b))
    | _ => none)
  | .ix, [p, q] => ixP p q
  | .slice false false, [p] => sliceN p none none
  | .slice true false, [p, a] => (partN a).bind fun i => sliceN p (some i) none
  | .slice false true, [p, b] => (partN b).bind fun j => sliceN p none (some j)
  | .back, [p] => (lstOf p).bind fun xs => if PV.fzL xs then some (.lst true xs.reverse) else none
  | .len, [p] => lenP p
  | .list, [p] => listP p
  | .tuple, [p] => tupleP p
  | .int, [p] => intP p
  | .str, [p] => strP p
  | .all, [p] => ((lstOf p).bind boolsP).map fun bs => .bl (bs.all id)
  | .any, [p] => ((lstOf p).bind boolsP).map fun bs => .bl (bs.any id)
  | .sum, [p] => ((lstOf p).bind intsP).map fun ns => .int ns.sum
  | .max, [p] => maxP p
  | .sorted, [p] => sortedP p
  | .isi, [p, q] => isiP p q
  | .join, [p, q] => joinP p q
  | .min2, [p, q] => (match p, q with
    | .int i, .int j => some (.int (if j < i then j else i))
    | _, _ => none)
  | _, _ => none

/-! ### the evaluator -/
/-- what it asks: the calls of the text's defs (one level less), which of their parameters may be lent, turns for a while -/
structure Cf where
  call : Str → List PV → CR
  lend : Str → List Bool
  fuel : Nat
  cur : Option PX

/-- an operand: a name that is read, or a value -/
inductive OV where
  | vw (i : Nat) | vl (p : PV) | vi (i k : Nat)
def Fr.at (ρ : Fr) (i : Nat) : Option PV := ρ.getD i none
def rsv (ρ : Fr) : OV → Option PV
  | .vw i => ρ.at i
  | .vl p => some p
  | .vi i k => (match ρ.at i with
    | some (.tup xs) => xs[k]?
    | _ => none)
def rsvL (ρ : Fr) : List OV → Option (List PV)
  | [] => some []
  | o :: r => match rsv ρ o, rsvL ρ r with
    | some p, some ps => some (p :: ps)
    | _, _ => none
def opnd (e : IE) (run : Fr → Res PV) (ρ : Fr) : Res OV := match e with
  | .loc i => (match ρ.at i with
    | some _ => .ok (.vw i) ρ
    | none => .bad)
  | .it i k => (match ρ.at i with
    | some (.tup xs) => if k < xs.length then .ok (.vi i k) ρ else .bad
    | _ => .bad)
  | _ => (run ρ).bind fun p ρ' => .ok (.vl p.frz) ρ'
def truth : PV → Option Bool
  | .non => some false
  | .bl b => some b
  | .int i => some (i != 0)
  | .str x => if okS x.length then some ((x.length : Int) != 0) else none
  | .lst _ xs => some (!xs.isEmpty)
  | .lck xs => some (!xs.isEmpty)
  | .tup xs => some (!xs.isEmpty)
  | _ => none
/-- a value that is to be a bool -/
def asB (r : Res PV) : Res Bool := r.bind fun p ρ => match p with
  | .bl b => .ok b ρ
  | _ => .bad
mutual
def asg : IT → PV → Fr → Option Fr
  | .nm i, p, ρ => if i < ρ.length then some (ρ.set i (some p)) else none
  | .tp ts, p, ρ => match p with
    | .tup xs => asgL ts xs ρ
    | _ => none
def asgL : List IT → List PV → Fr → Option Fr
  | [], [], ρ => some ρ
  | t :: ts, x :: xs, ρ => (asg t x ρ).bind fun ρ1 => asgL ts xs ρ1
  | _, _, _ => none
end
def putL : List Nat → List PV → Fr → Option Fr
  | [], [], ρ => some ρ
  | i :: is, x :: xs, ρ => if i < ρ.length then putL is xs (ρ.set i (some x)) else none
  | _, _, _ => none
/-- the slots of a comprehension's own names: emptied -/
def wipeF (ρ : Fr) : List Nat → Fr
  | [] => ρ
  | i :: r => (wipeF ρ r).set i none
def frzAt (ρ : Fr) : List Nat → Fr
  | [] => ρ
  | i :: r => (frzAt ρ r).set i (((frzAt ρ r).at i).map PV.frz)
def putAt (ρ0 ρ : Fr) : List Nat → Fr
  | [] => ρ
  | i :: r => match ρ0.at i with
    | some p => (putAt ρ0 ρ r).set i (some p)
    | none => putAt ρ0 ρ r
def backAt (ρ0 ρ : Fr) (own : List Nat) : Fr := putAt ρ0 (wipeF ρ own) own
/-- the comprehension's loop: turn gives the item, or nothing (a test failed) -/
def compL (turn : PV → Fr → Res (Option PV)) (own : List Nat) : List PV → Fr → List PV → Res (List PV)
  | [], ρ, acc => .ok acc ρ
  | x :: r, ρ, acc => match turn x ρ with
    | .ok (some y) ρ1 => if acc.length < sizeLine then compL turn own r (wipeF ρ1 own) (acc ++ [y.frz]) else .bad
    | .ok none ρ1 => compL turn own r (wipeF ρ1 own) acc
    | _ => .bad
/-- the inner loop of two: whatever it makes is put behind acc -/
def innL (turn : PV → Fr → Res (Option PV)) : List PV → Fr → List PV → Res (List PV)
  | [], ρ, acc => .ok acc ρ
  | x :: r, ρ, acc => match turn x ρ with
    | .ok (some y) ρ1 => if acc.length < sizeLine then innL turn r ρ1 (acc ++ [y.frz]) else .bad
    | .ok none ρ1 => innL turn r ρ1 acc
    | _ => .bad
def comp2L (src : PV → Fr → Res (List PV)) (turn : PV → Fr → Res (Option PV)) : List PV → Fr → List PV → Res (List PV)
  | [], ρ, acc => .ok acc ρ
  | x :: r, ρ, acc => match src x ρ with
    | .ok ys ρ1 => (match innL turn ys ρ1 acc with
      | .ok acc' ρ2 => comp2L src turn r ρ2 acc'
      | _ => .bad)
    | _ => .bad
def vwLen (ρ : Fr) (i n : Nat) : Bool := match ρ.at i with
  | some (.lst _ xs) => decide (xs.length = n)
  | _ => false
/-- the j-th item of the list in slot i, whose length is n -/
def vwAt (ρ : Fr) (i n j : Nat) : Option PV := match ρ.at i with
  | some (.lst _ xs) => if xs.length = n then (match xs[j]? with
    | some x => if x.fz then some x else none
    | none => none) else none
  | _ => none
def compV (turn : PV → Fr → Res (Option PV)) (own : List Nat) (i n : Nat) : Nat → Fr → List PV → Res (List PV)
  | 0, ρ, acc => if vwLen ρ i n then .ok acc ρ else .bad
  | k + 1, ρ, acc => match vwAt ρ i n (n - (k + 1)) with
    | some x => (match turn x ρ with
      | .ok (some y) ρ1 => if acc.length < sizeLine then compV turn own i n k (wipeF ρ1 own) (acc ++ [y.frz]) else .bad
      | .ok none ρ1 => compV turn own i n k (wipeF ρ1 own) acc
      | _ => .bad)
    | none => .bad
def forV (turn : PV → Fr → Res Fl) (i n : Nat) : Nat → Fr → Res Fl
  | 0, ρ => if vwLen ρ i n then .ok .nx ρ else .bad
  | k + 1, ρ => match vwAt ρ i n (n - (k + 1)) with
    | some x => (match turn x ρ with
      | .ok .nx ρ1 => forV turn i n k ρ1
      | .ok .ct ρ1 => forV turn i n k ρ1
      | .ok .bk ρ1 => .ok .nx ρ1
      | z => z)
    | none => .bad
def lenAt (ρ : Fr) (i : Nat) : Option Nat := match ρ.at i with
  | some (.lst _ xs) => some xs.length
  | _ => none
/-- a for's loop -/
def forL (turn : PV → Fr → Res Fl) : List PV → Fr → Res Fl
  | [], ρ => .ok .nx ρ
  | x :: r, ρ => match turn x ρ with
    | .ok .nx ρ1 => forL turn r ρ1
    | .ok .ct ρ1 => forL turn r ρ1
    | .ok .bk ρ1 => .ok .nx ρ1
    | z => z
def whlL (t : Fr → Res Bool) (body : Fr → Res Fl) : Nat → Fr → Res Fl
  | 0, _ => .bad
  | n + 1, ρ => (t ρ).bind fun b ρ1 => if b then (match body ρ1 with
    | .ok .nx ρ2 => whlL t body n ρ2
    | .ok .ct ρ2 => whlL t body n ρ2
    | .ok .bk ρ2 => .ok .nx ρ2
    | z => z) else .ok .nx ρ1
/-- an argument: lent from its slot (left empty meanwhile), or a value -/
def argd (lend : Bool) (e : IE) (run : Fr → Res PV) (ρ : Fr) : Res (PV × Option Nat) := match lend, e with
  | true, .loc i => (match ρ.at i with
    | some p => if p.fz then .ok (p, none) ρ else .ok (p, some i) (ρ.set i none)
    | none => .bad)
  | _, _ => (run ρ).bind fun p ρ' => .ok (p.frz, none) ρ'
/-- an argument of a call, as it is reckoned: a name that may be lent stays a name -/
def opA (lend : Bool) (e : IE) (run : Fr → Res PV) (ρ : Fr) : Res OV := match lend with
  | true => opnd e run ρ
  | false => (run ρ).bind fun p ρ' => .ok (.vl p.frz) ρ'
/-- .. it may be starred -/
def starA (star lend : Bool) (e : IE) (run : Fr → Res PV) (ρ : Fr) : Res OV := match star with
  | true => (run ρ).bind fun p ρ' => (match seqOf p.frz with
    | some _ => .ok (.vl p.frz) ρ'
    | none => .bad)
  | false => opA lend e run ρ
/-- all are reckoned: what is lent is taken out of its slot -/
def takeA : List OV → Fr → Option (List (PV × Option Nat) × Fr)
  | [], ρ => some ([], ρ)
  | .vl p :: r, ρ => (takeA r ρ).map fun z => ((p, none) :: z.1, z.2)
  | .vw i :: r, ρ => match ρ.at i with
    | some p => if p.fz then (takeA r ρ).map fun z => ((p, none) :: z.1, z.2) else (takeA r (ρ.set i none)).map fun z => ((p, some i) :: z.1, z.2)
    | none => none
  | .vi _ _ :: _, _ => none
def give : List (Option Nat) → Fr → Fr → Fr
  | some i :: r, a :: as, ρ => give r as (ρ.set i a)
  | none :: r, _ :: as, ρ => give r as ρ
  | _, _, ρ => ρ
def callR (c : Cf) (k : Str) (as : List (PV × Option Nat)) (ρ : Fr) : Res PV := match c.call k (as.map (·.1)) with
  | .ok r as' => .ok r (give (as.map (·.2)) as' ρ)
  | .ex x as' => .ex x (give (as.map (·.2)) as' ρ)
  | .bad => .bad
/-- a call of a class: the new instance is lent to its __init__, and handed out -/
def callNew (c : Cf) (k : Str) (K : CK) (as : List (PV × Option Nat)) (ρ : Fr) : Res PV := match c.call k (.obj true K [] :: as.map (·.1)) with
  | .ok .non (some p :: as') => .ok p (give (as.map (·.2)) as' ρ)
  | .ok _ _ => .bad
  | .ex x (_ :: as') => .ex x (give (as.map (·.2)) as' ρ)
  | .ex _ [] => .bad
  | .bad => .bad
/-- the parameters' operands -/
def srcO (os : List OV) : List Src → Option (List OV)
  | [] => some []
  | .a i :: r => match os[i]?, srcO os r with
    | some o, some l => some (o :: l)
    | _, _ => none
  | .d p :: r => (srcO os r).map (.vl p :: ·)
/-- what a star takes up -/
def restL : List Bool → List OV → Option (List PV)
  | _, [] => some []
  | st, .vl p :: r => (match restL st.tail r with
    | some l => if st.headD false then (seqOf p).map (· ++ l) else some (p :: l)
    | none => none)
  | _, _ :: _ => none
def restO (st : List Bool) (os : List OV) : Option (Nat × Nat) → Option (List OV)
  | none => some []
  | some z => (restL (st.drop z.1) ((os.take z.2).drop z.1)).bind fun l => if okS l.length then some [.vl (.tup l)] else none
def bindO (st : List Bool) (ss : List Src) (rs : Option (Nat × Nat)) (os : List OV) : Option (List OV) := match srcO os ss, restO st os rs with
  | some a, some b => some (a ++ b)
  | _, _ => none
/-- what is called: a def, ahead of it the operands that it is handed; a class -/
inductive HR where
  | key (k : Str) (pre : List OV)
  | mk (k : Str) (K : CK)
def initOf (K : CK) : Option Str := match K.ms.lookup ("__init__" : Str) with
  | some (.df k) => some k
  | _ => none
def methOf (p : PV) (m : Str) : Option HR := match p with
  | .obj _ K _ => (match K.fn.contains m, K.ms.lookup m with
    | false, some (.df k) => some (.key k [.vl p])
    | _, _ => none)
  | .cl K => (match K.ms.lookup m with
    | some (.cm k) => some (.key k [.vl p])
    | some (.sm k) => some (.key k [])
    | _ => none)
  | _ => none
/-- a class that is named -/
def fitC (cs : Option (List Str)) (p : PV) : Bool := match cs, p with
  | none, _ => true
  | some cs, .obj _ K _ => cs.contains K.cls
  | some cs, .cl K => cs.contains K.cls
  | _, _ => false
def fldP (p : PV) (f : Str) : Option PV := match p with
  | .obj _ K fs => (match K.fn.idxOf? f with
    | some i => (match fs[i]? with
      | some q => if q.fz then some q else none
      | none => none)
    | none => (match K.ms.lookup f with
      | some (.cs s) => some (.str s)
      | _ => none))
  | .cl K => (match K.ms.lookup f with
    | some (.cs s) => some (.str s)
    | _ => none)
  | _ => none
/-- a display's items -/
def dspI : List Bool → List PV → Option (List PV)
  | _, [] => some []
  | st, p :: r => match dspI st.tail r with
    | some l => if st.headD false then (if p.fz then (seqOf p).map (· ++ l) else none) else some (p.frz :: l)
    | none => none
/-- an own operator's answer: it raises nothing -/
def ownR : Res PV → Res PV
  | .ok p ρ => .ok p ρ
  | _ => .bad
/-- .. a bool -/
def asB1 : Res PV → Res PV
  | .ok (.bl b) ρ => .ok (.bl b) ρ
  | _ => .bad
/-- the left one's __eq__ is asked first -/
def eqOk (p q : PV) : Bool := match p, q with
  | .obj _ k _, .obj _ k' _ => decide (k = k') || (match k'.up.lookup k.cls with
    | some false => true
    | _ => false)
  | .obj _ _ _, q => (tyN q).isSome
  | _, _ => false
def selP (ks : List Str) (ps : List PV) (q : PV) : Option PV := match q with
  | .str s => (ks.zip ps).lookup s
  | _ => none
def rngI (lo : Int) : Nat → List PV
  | 0 => []
  | n + 1 => .int lo :: rngI (lo + 1) n
def small62 (i : Int) : Bool := decide (-(2 ^ 62) ≤ i ∧ i < 2 ^ 62)
def rngN : List PV → Option (List PV)
  | [.int j] => if small62 j then some (rngI 0 j.toNat) else none
  | [.int i, .int j] => if small62 i && small62 j then some (rngI i (j - i).toNat) else none
  | _ => none
def enmN (k : Int) : List PV → List PV
  | [] => []
  | x :: r => .tup [.int k, x] :: enmN (k + 1) r
def zipN : List PV → List PV → List PV
  | x :: r, y :: s => .tup [x, y] :: zipN r s
  | _, _ => []

def srcOf : PV → Option (List PV)
  | .str x => some (x.cps.toList.map fun k => .str ⟨#[k]⟩)
  | p => seqOf p
def enmP : List PV → Option (List PV)
  | [.lst _ xs] => some (enmN 0 xs)
  | [.lck xs] => some (enmN 0 xs)
  | _ => none
def zipP : List PV → Option (List PV)
  | [.lst _ xs, .lst _ ys] => some (zipN xs ys)
  | _ => none
/-- the slots that a target stores -/
def IT.slots : IT → List Nat
  | .nm i => [i]
  | .tp ts => slotsL ts
where slotsL : List IT → List Nat
  | [] => []
  | t :: ts => t.slots ++ slotsL ts

/-- what a display of these is worth (none: it is none) -/
def dspP : Option Bool → List PV → Option PV
  | none, ps => (match ps with
    | [p] => some p
    | _ => none)
  | some true, ps => some (.tup ps)
  | some false, ps => some (.lst false ps)
def fitO (os : List OV) (ρ : Fr) : Res (List OV) := if okS os.length then .ok os ρ else .bad
mutual
def evE (c : Cf) : IE → Fr → Res PV
  | .cst p, ρ => .ok p ρ
  | .loc i, ρ => (match ρ.at i with
    | some p => .ok p.frz (ρ.set i (some p.frz))
    | none => .bad)
  | .mov i, ρ => (match ρ.at i with
    | some p => .ok p (ρ.set i none)
    | none => .bad)
  | .op f es, ρ => (evO c es ρ).bind fun os ρ1 => match rsvL ρ1 os with
    | some ps => (match opN f ps with
      | some r => .ok r ρ1
      | none => .bad)
    | none => .bad
  | .chain f g a b d, ρ => (opnd a (evE c a) ρ).bind fun x ρ1 => (opnd b (evE c b) ρ1).bind fun y ρ2 =>
      match rsv ρ2 x, rsv ρ2 y with
      | some p, some q => (match cmpN f p q with
        | some true => (opnd d (evE c d) ρ2).bind fun z ρ3 => (match rsv ρ3 y, rsv ρ3 z with
          | some q, some r => (match cmpN g q r with
            | some k => .ok (.bl k) ρ3
            | none => .bad)
          | _, _ => .bad)
        | some false => .ok (.bl false) ρ2
        | none => .bad)
      | _, _ => .bad
  | .dcmp f t es u ds, ρ => ((evO c es ρ).bind fitO).bind fun x ρ1 => ((evO c ds ρ1).bind fitO).bind fun y ρ2 => match (rsvL ρ2 x).bind (dspP t), (rsvL ρ2 y).bind (dspP u) with
      | some p, some q => (match cmpN f p q with
        | some k => .ok (.bl k) ρ2
        | none => .bad)
      | _, _ => .bad
  | .slc e a b, ρ => (opnd e (evE c e) ρ).bind fun x ρ1 => (opnd a (evE c a) ρ1).bind fun y ρ2 => (match (rsv ρ2 y).bind partN with
      | some i => (opnd b (evE c b) ρ2).bind fun z ρ3 => (match rsv ρ3 x, (rsv ρ3 z).bind partN with
        | some p, some j => (match sliceN p (some i) (some j) with
          | some r => .ok r ρ3
          | none => .bad)
        | _, _ => .bad)
      | none => .bad)
  | .and a b, ρ => (asB (evE c a ρ)).bind fun k ρ1 => if k then evE c b ρ1 else .ok (.bl false) ρ1
  | .or a b, ρ => (asB (evE c a ρ)).bind fun k ρ1 => if k then .ok (.bl true) ρ1 else evE c b ρ1
  | .ite t a b, ρ => (evT c t (evE c t) ρ).bind fun k ρ1 => if k then evE c a ρ1 else evE c b ρ1
  | .lst es, ρ => (evL c es ρ).bind fun ps ρ1 => if okS ps.length then .ok (.lst true (PV.frzL ps)) ρ1 else .bad
  | .tup es, ρ => (evL c es ρ).bind fun ps ρ1 => if okS ps.length then .ok (.tup (PV.frzL ps)) ρ1 else .bad
  | .call k ls es, ρ => (evA c ls es ρ).bind fun os ρ1 => match takeA os ρ1 with
      | some z => callR c k z.1 z.2
      | none => .bad
  | .comp elt tg src ifs own, ρ => (evSrc c src ρ).bind fun xs ρ1 =>
      match compL (fun x ρ => match asg tg x ρ with
        | some ρ2 => (evIfs c ifs ρ2).bind fun k ρ3 => if k then (evE c elt ρ3).bind fun y ρ4 => .ok (some y) ρ4 else .ok none ρ3
        | none => .bad) own xs (wipeF (frzAt ρ1 own) own) [] with
      | .ok ys ρ2 => .ok (.lst true ys) (backAt (frzAt ρ1 own) ρ2 own)
      | _ => .bad
  | .compv elt tg i ifs own, ρ => (match lenAt ρ i, own.contains i with
    | some n, false => (match compV (fun x ρ => match asg tg x ρ with
        | some ρ2 => (evIfs c ifs ρ2).bind fun k ρ3 => if k then (evE c elt ρ3).bind fun y ρ4 => .ok (some y) ρ4 else .ok none ρ3
        | none => .bad) own i n n (wipeF (frzAt ρ own) own) [] with
      | .ok ys ρ2 => .ok (.lst true ys) (backAt (frzAt ρ own) ρ2 own)
      | _ => .bad)
    | _, _ => .bad)
  | .cal h st ls es ss rs, ρ => (evHd c h ρ).bind fun hd ρ0 => (evX c st ls es ρ0).bind fun os ρ1 => match bindO st ss rs os with
      | some os => (match hd with
        | .key k pre => (match takeA (pre ++ os) ρ1 with
          | some z => callR c k z.1 z.2
          | none => .bad)
        | .mk k K => (match takeA os ρ1 with
          | some z => callNew c k K z.1 z.2
          | none => .bad))
      | none => .bad
  | .fld e f, ρ => (opnd e (evE c e) ρ).bind fun o ρ1 => match (rsv ρ1 o).bind fun p => fldP p f with
      | some q => .ok q ρ1
      | none => .bad
  | .dsp t st es, ρ => (evL c es ρ).bind fun ps ρ1 => match dspI st (PV.frzL ps) with
      | some qs => if okS qs.length then .ok (match t with
        | true => .tup qs
        | false => .lst true qs) ρ1 else .bad
      | none => .bad
  | .dun m a b, ρ => (evE c a ρ).bind fun p ρ1 => (evE c b ρ1).bind fun q ρ2 => match methOf p.frz m with
      | some (.key k [.vl p]) => ownR (callR c k [(p, none), (q.frz, none)] ρ2)
      | _ => .bad
  | .has a b, ρ => (evE c a ρ).bind fun p ρ1 => (evE c b ρ1).bind fun q ρ2 => match isObj q.frz, methOf q.frz "__contains__" with
      | true, some (.key k [.vl q]) => asB1 (callR c k [(q, none), (p.frz, none)] ρ2)
      | _, _ => .bad
  | .lidx a b, ρ => (evE c a ρ).bind fun p ρ1 => match lstOf p.frz with
      | some _ => (evE c b ρ1).bind fun q ρ2 => (match indexP p.frz q.frz with
        | some r => .ok r ρ2
        | none => .bad)
      | none => .bad
  | .oeq ng a b, ρ => (evE c a ρ).bind fun p ρ1 => (evE c b ρ1).bind fun q ρ2 => match eqOk p.frz q.frz, methOf p.frz "__eq__" with
      | true, some (.key k [.vl p]) => (match ng with
        | false => asB1 (callR c k [(p, none), (q.frz, none)] ρ2)
        | true => .bad)
      | _, _ => .bad
  | .dsel ks es k, ρ => (evL c es ρ).bind fun ps ρ1 => (evE c k ρ1).bind fun q ρ2 => match selP ks (PV.frzL ps) q with
      | some p => .ok p ρ2
      | none => .bad
  | .hx, ρ => (match c.cur with
    | some _ => .ok .opq ρ
    | none => .bad)
  | .comp2 elt tg src tg2 src2 ifs own, ρ => (evSrc c src ρ).bind fun xs ρ1 =>
      match comp2L (fun x ρ => match asg tg x ρ with
        | some ρ2 => evSrc c src2 ρ2
        | none => .bad) (fun x ρ => match asg tg2 x ρ with
        | some ρ2 => (evIfs c ifs ρ2).bind fun k ρ3 => if k then (evE c elt ρ3).bind fun y ρ4 => .ok (some y) ρ4 else .ok none ρ3
        | none => .bad) xs (wipeF (frzAt ρ1 own) own) [] with
      | .ok ys ρ2 => .ok (.lst true ys) (backAt (frzAt ρ1 own) ρ2 own)
      | _ => .bad
  | .tupo es, ρ => (evL c es ρ).bind fun ps ρ1 => if okS ps.length then .ok (.tup ps) ρ1 else .bad
  | .it _ _, _ => .bad
  | .xf f, ρ => (match c.cur.bind fun x => x.fs.lookup f with
    | some p => .ok p ρ
    | none => .bad)
  | .xi T, ρ => (match c.cur.bind fun x => x.xd.ty.lookup T with
    | some b => .ok (.bl b) ρ
    | none => .bad)
def evHd (c : Cf) : CH → Fr → Res HR
  | .fn k, ρ => .ok (.key k []) ρ
  | .new K, ρ => (match initOf K with
    | some k => .ok (.mk k K) ρ
    | none => .bad)
  | .newv i K, ρ => (match ρ.at i with
    | some (.cl K') => (match decide (K = K'), initOf K with
      | true, some k => .ok (.mk k K) ρ
      | _, _ => .bad)
    | _ => .bad)
  | .sup k, ρ => .ok (.key k [.vw 0]) ρ
  | .mth e m cs, ρ => (evE c e ρ).bind fun p ρ1 => (match fitC cs p, methOf p.frz m with
    | true, some h => .ok h ρ1
    | _, _ => .bad)
  | .ocl e, ρ => (evE c e ρ).bind fun p ρ1 => (match methOf p.frz "__call__" with
    | some h => .ok h ρ1
    | none => .bad)
/-- a test; run: its value -/
def evT (c : Cf) : IE → (Fr → Res PV) → Fr → Res Bool
  | .and a b, _, ρ => (evT c a (evE c a) ρ).bind fun k ρ1 => if k then evT c b (evE c b) ρ1 else .ok false ρ1
  | .or a b, _, ρ => (evT c a (evE c a) ρ).bind fun k ρ1 => if k then .ok true ρ1 else evT c b (evE c b) ρ1
  | .op .not [e], _, ρ => (evT c e (evE c e) ρ).bind fun k ρ1 => .ok (!k) ρ1
  | .op f es, run, ρ => asB (run ρ)
  | .chain _ _ _ _ _, run, ρ => asB (run ρ)
  | .oeq _ _ _, run, ρ => asB (run ρ)
  | .has _ _, run, ρ => asB (run ρ)
  | .dcmp _ _ _ _ _, run, ρ => asB (run ρ)
  | e, run, ρ => (opnd e run ρ).bind fun o ρ1 => match rsv ρ1 o with
    | some p => (match truth p with
      | some k => .ok k ρ1
      | none => .bad)
    | none => .bad
def evIfs (c : Cf) : List IE → Fr → Res Bool
  | [], ρ => .ok true ρ
  | [e], ρ => evT c e (evE c e) ρ
  | _, _ => .bad
def evO (c : Cf) : List IE → Fr → Res (List OV)
  | [], ρ => .ok [] ρ
  | e :: es, ρ => (opnd e (evE c e) ρ).bind fun o ρ1 => (evO c es ρ1).bind fun os ρ2 => .ok (o :: os) ρ2
def evL (c : Cf) : List IE → Fr → Res (List PV)
  | [], ρ => .ok [] ρ
  | e :: es, ρ => (evE c e ρ).bind fun p ρ1 => (evL c es ρ1).bind fun ps ρ2 => .ok (p :: ps) ρ2
def evA (c : Cf) : List Bool → List IE → Fr → Res (List OV)
  | _, [], ρ => .ok [] ρ
  | ls, e :: es, ρ => (opA (ls.headD false) e (evE c e) ρ).bind fun o ρ1 => (evA c ls.tail es ρ1).bind fun os ρ2 => .ok (o :: os) ρ2
def evX (c : Cf) : List Bool → List Bool → List IE → Fr → Res (List OV)
  | _, _, [], ρ => .ok [] ρ
  | st, ls, e :: es, ρ => (starA (st.headD false) (ls.headD false) e (evE c e) ρ).bind fun o ρ1 => (evX c st.tail ls.tail es ρ1).bind fun os ρ2 => .ok (o :: os) ρ2
def evSrc (c : Cf) : ISrc → Fr → Res (List PV)
  | .it e, ρ => (evE c e ρ).bind fun p ρ1 => match srcOf p.frz with
    | some xs => .ok xs ρ1
    | none => .bad
  | .rng es, ρ => (evO c es ρ).bind fun os ρ1 => match (rsvL ρ1 os).bind rngN with
    | some xs => .ok xs ρ1
    | none => .bad
  | .enm e, ρ => (argd false e (evE c e) ρ).bind fun a ρ1 => match enmP [a.1] with
    | some xs => .ok xs ρ1
    | none => .bad
  | .zp a b, ρ => (argd false a (evE c a) ρ).bind fun x ρ1 => (argd false b (evE c b) ρ1).bind fun y ρ2 => match zipP [x.1, y.1] with
    | some xs => .ok xs ρ2
    | none => .bad
end
/-- an end of an except suite: its name's slot is emptied; it raises nothing -/
def sufR (i : Option Nat) (r : Res Fl) : Res Fl := match r, i with
  | .ok f ρ, some i => .ok f (ρ.set i none)
  | .ok f ρ, none => .ok f ρ
  | _, _ => .bad
def Cf.held (c : Cf) (i : Option Nat) (x : PX) : Cf := match i with
  | some _ => { c with cur := some x }
  | none => c
def dropI (i : Option Nat) (ρ : Fr) : Fr := match i with
  | some i => ρ.set i none
  | none => ρ
def fitI (i : Option Nat) (ρ : Fr) : Bool := match i with
  | some i => decide (i < ρ.length)
  | none => true
def isLst : Option PV → Bool
  | some (.lst _ _) => true
  | _ => false
mutual
def evS (c : Cf) : IS → Fr → Res Fl
  | .set i e, ρ => (evE c e ρ).bind fun p ρ1 => if i < ρ1.length then .ok .nx (ρ1.set i (some p)) else .bad
  | .par is es, ρ => (evL c es ρ).bind fun ps ρ1 => match putL is ps ρ1 with
    | some ρ2 => .ok .nx ρ2
    | none => .bad
  | .asg tg e, ρ => (evE c e ρ).bind fun p ρ1 => match asg tg p.frz ρ1 with
    | some ρ2 => .ok .nx ρ2
    | none => .bad
  | .aug i o e, ρ => (match ρ.at i with
    | some q => (evE c e ρ).bind fun p ρ1 => (match q, p with
      | .int a, .int b => (match o with
        | .Add => .ok .nx (ρ1.set i (some (.int (a + b))))
        | .Sub => .ok .nx (ρ1.set i (some (.int (a - b))))
        | _ => .bad)
      | _, _ => .bad)
    | none => .bad)
  | .sub i ix e, ρ => (evE c e ρ).bind fun p ρ1 => if isLst (ρ1.at i) then (opnd ix (evE c ix) ρ1).bind fun o ρ2 => (match ρ2.at i, rsv ρ2 o with
    | some (.lst true xs), some (.int k) => (match L2.ixN xs.length k with
      | some j => .ok .nx (ρ2.set i (some (.lst true (xs.set j p.frz))))
      | none => .bad)
    | _, _ => .bad) else .bad
  | .app i e, ρ => if isLst (ρ.at i) then (evE c e ρ).bind fun p ρ1 => (match ρ1.at i with
    | some (.lst true xs) => if xs.length < sizeLine then .ok .nx (ρ1.set i (some (.lst true (xs ++ [p.frz])))) else .bad
    | _ => .bad) else .bad
  | .ext i e, ρ => if isLst (ρ.at i) then (evE c e ρ).bind fun p ρ1 => (match ρ1.at i, p.frz with
    | some (.lst true xs), .lst _ ys => if xs.length + ys.length ≤ sizeLine then .ok .nx (ρ1.set i (some (.lst true (xs ++ ys)))) else .bad
    | _, _ => .bad) else .bad
  | .exp e, ρ => (evE c e ρ).bind fun _ ρ1 => .ok .nx ρ1
  | .ret e, ρ => (evE c e ρ).bind fun p ρ1 => .ok (.rt p) ρ1
  | .retN, ρ => .ok (.rt .non) ρ
  | .ife t a b, ρ => (evT c t (evE c t) ρ).bind fun k ρ1 => if k then evB c a ρ1 else evB c b ρ1
  | .fors tg src body, ρ => (evSrc c src ρ).bind fun xs ρ1 => forL (fun x ρ => match asg tg x ρ with
      | some ρ2 => evB c body ρ2
      | none => .bad) xs ρ1
  | .forv tg i body, ρ => (match lenAt ρ i with
    | some n => forV (fun x ρ => match asg tg x ρ with
      | some ρ2 => evB c body ρ2
      | none => .bad) i n n ρ
    | none => .bad)
  | .whl t body, ρ => whlL (evT c t (evE c t)) (evB c body) c.fuel ρ
  | .brk, ρ => .ok .bk ρ
  | .cnt, ρ => .ok .ct ρ
  | .pas, ρ => .ok .nx ρ
  | .rai d es, ρ => (evL c es ρ).bind fun ps ρ1 => if ps.length = d.fs.length then .ex ⟨d, d.fs.zip (PV.frzL ps)⟩ ρ1 else .bad
  | .raif d es, ρ => (match c.cur with
    | some _ => (evL c es ρ).bind fun ps ρ1 => if ps.length = d.fs.length then .ex ⟨d, d.fs.zip (PV.frzL ps)⟩ ρ1 else .bad
    | none => .bad)
  | .fst i f e, ρ => (evE c e ρ).bind fun p ρ1 => (match ρ1.at i with
    | some (.obj true K fs) => (match K.fn.idxOf? f with
      | some j => if j = fs.length then .ok .nx (ρ1.set i (some (.obj true K (fs ++ [p.frz])))) else if j < fs.length ∧ K.sl = none then .ok .nx (ρ1.set i (some (.obj true K (fs.set j p.frz)))) else .bad
      | none => .bad)
    | _ => .bad)
  | .tryx body hs, ρ => (match evB c body ρ with
    | .ex x ρ1 => evH c hs x ρ1
    | z => z)
  | .appi i k x, ρ => (match ρ.at i with
    | some (.tup xs) => (match xs[k]? with
      | some (.lst true ys) => if ys.length < sizeLine then .ok .nx (ρ.set i (some (.tup (xs.set k (.lst true (ys ++ [.str x])))))) else .bad
      | _ => .bad)
    | _ => .bad)
def evH (c : Cf) : IH → PX → Fr → Res Fl
  | .nil, x, ρ => .ex x ρ
  | .cons k i suite r, x, ρ => (match x.xd.rel.lookup k with
    | some true => if fitI i ρ then sufR i (evB (c.held i x) suite (dropI i ρ)) else .bad
    | some false => evH c r x ρ
    | none => .bad)
def evB (c : Cf) : List IS → Fr → Res Fl
  | [], ρ => .ok .nx ρ
  | s :: r, ρ => match evS c s ρ with
    | .ok .nx ρ1 => evB c r ρ1
    | z => z
end
/-- a def of the text: how many slots, how many parameters, its body -/
structure Fd where
  n : Nat
  ps : Nat
  lend : List Bool
  body : List IS
/-- what a caller sees again: the slots that were lent -/
def maskF : List Bool → Fr → Fr
  | _, [] => []
  | [], _ :: r => none :: maskF [] r
  | b :: bs, x :: r => (if b then x else none) :: maskF bs r
def runF (c : Cf) (d : Fd) (as : List PV) : CR :=
  if as.length = d.ps then (match evB c d.body (as.map some ++ List.replicate (d.n - d.ps) none) with
    | .ok (.rt p) ρ => .ok p (maskF d.lend (ρ.take d.ps))
    | .ok .nx ρ => .ok .non (maskF d.lend (ρ.take d.ps))
    | .ok _ _ => .bad
    | .ex x ρ => .ex x (maskF d.lend (ρ.take d.ps))
    | .bad => .bad) else .bad
/-- the defs of the text by their keys -/
abbrev Tb := Str → Option Fd
def lendOf (T : Tb) (k : Str) : List Bool := match T k with
  | some d => d.lend
  | none => []
def callN (T : Tb) (fuel : Nat) : Nat → Str → List PV → CR
  | 0, _, _ => .bad
  | n + 1, k, as => match T k with
    | some d => runF ⟨callN T fuel n, lendOf T, fuel, none⟩ d as
    | none => .bad
mutual
theorem PV.frz_fz : ∀ (p : PV), p.frz.fz = true
  | .non => rfl
  | .bl b => rfl
  | .int i => rfl
  | .str x => rfl
  | .ty n => rfl
  | .fn k => rfl
  | .cl k => rfl
  | .opq => rfl
  | .obj o k xs => by simp only [PV.frz, PV.fz, PV.frzL_fz xs]; rfl
  | .lst o xs => by simp only [PV.frz, PV.fz, PV.frzL_fz xs]; rfl
  | .lck xs => by simp only [PV.frz, PV.fz, PV.frzL_fz xs]
  | .tup xs => by simp only [PV.frz, PV.fz, PV.frzL_fz xs]
theorem PV.frzL_fz : ∀ (p : List PV), PV.fzL (PV.frzL p) = true
  | [] => rfl
  | x :: r => by simp only [PV.frzL, PV.fzL, PV.frz_fz x, PV.frzL_fz r]; rfl
end
mutual
theorem PV.fz_frz : ∀ (p : PV), p.fz = true → p.frz = p
  | .non, _ => rfl
  | .bl b, _ => rfl
  | .int i, _ => rfl
  | .str x, _ => rfl
  | .ty n, _ => rfl
  | .fn k, _ => rfl
  | .cl k, _ => rfl
  | .opq, _ => rfl
  | .obj o k xs, h => by
    simp only [PV.fz, Bool.and_eq_true, Bool.not_eq_true'] at h
    simp only [PV.frz, PV.fzL_frzL xs h.2, h.1]
  | .lst o xs, h => by
    simp only [PV.fz, Bool.and_eq_true, Bool.not_eq_true'] at h
    simp only [PV.frz, PV.fzL_frzL xs h.2, h.1]
  | .lck xs, h => by simp only [PV.fz] at h; simp only [PV.frz, PV.fzL_frzL xs h]
  | .tup xs, h => by simp only [PV.fz] at h; simp only [PV.frz, PV.fzL_frzL xs h]
theorem PV.fzL_frzL : ∀ (p : List PV), PV.fzL p = true → PV.frzL p = p
  | [], _ => rfl
  | x :: r, h => by
    simp only [PV.fzL, Bool.and_eq_true] at h
    simp only [PV.frzL, PV.fz_frz x h.1, PV.fzL_frzL r h.2]
end
theorem PV.frzL_length : ∀ xs : List PV, (PV.frzL xs).length = xs.length
  | [] => rfl
  | x :: r => by simp only [PV.frzL, List.length_cons, PV.frzL_length r]
end Y
end
section
set_option Elab.async false
set_option linter.all false
set_option maxRecDepth 100000
set_option maxHeartbeats 1000000
/-! Y2: pure values in the abstract heap: a frozen part G, cells that are held alone. -/
namespace Y
open PySem L2

abbrev Cell := Addr × HO
/-- the exception that an except suite holds: its name's slot, where it stands, its dict, what it is -/
structure Xc where
  i : Nat
  a : Addr
  d : Addr
  x : PX
/-- where the defs and classes of the text stand; the exception that is held -/
structure Nm where
  fn : Str → Addr
  cks : List CK
structure Ad where
  nm : Nm
  cur : Option Xc
instance : CoeFun Ad fun _ => Str → Addr := ⟨fun a => a.nm.fn⟩
def Ad.base (a : Ad) : Ad := ⟨a.nm, none⟩
/-- what the written part says of a name of a class -/
def MsOk (fn : Str → Addr) (K : PySem.W.Frag) (C : Addr) (m : Str) : MR → Prop
  | .df k => Meth K C m (fn k) ∧ PySem.W.fnIn K (fn k) = true
  | .cs s => (∃ u, Con K C m (.str s) u) ∧ ∃ mc u, ClX.CRead K C mc ∧ ClX.CVal K C mc m (.str s) u
  | .cm k => ∃ mc p, ClX.CRead K C mc ∧ ClX.CMet K C mc m p (fn k)
  | .sm k => ∃ mc p rest, ClX.CRead K C mc ∧ PySem.W.findCls K (.ref C) mc m = some (.get (.builtin "staticmethod.__get__") (.ref p) .none (.ref C)) ∧ PySem.W.recIn K p "staticmethod" = some (.ref (fn k) :: rest) ∧ PySem.W.keepIn K (.ref (fn k)) = true
  | .pr k => ∃ p, PropOf K C m p (fn k)
/-- .. of a class -/
structure CkOk (nm : Nm) (K : PySem.W.Frag) (k : CK) : Prop where
  shape : match k.sl with
    | none => Cls K (nm.fn k.cls) ∧ ∀ f ∈ k.fn, NoAttr K (nm.fn k.cls) f
    | some ps => SlX.SCls K (nm.fn k.cls) ∧ ps.length = k.fn.length ∧ ps.Nodup ∧ ∀ (j : Nat) (f : Str) (i : Nat), k.fn[j]? = some f → ps[j]? = some i → ∃ p, SlX.Slot1 K (nm.fn k.cls) f p i
  mem : k ∈ nm.cks
  nd : k.fn.Nodup
  sz : k.fn.length < 900
  ms : ∀ m r, k.ms.lookup m = some r → MsOk nm.fn K (nm.fn k.cls) m r
  up : ∀ c b, k.up.lookup c = some b → PySem.W.kitOne K (.ref (nm.fn k.cls)) (.ref (nm.fn c)) = some b ∧ PySem.W.subIn K (.ref (nm.fn k.cls)) (.ref (nm.fn c)) = some b
  mki : PySem.W.makesIn K (nm.fn k.cls) = true
  kp : PySem.W.keepIn K (.ref (nm.fn k.cls)) = true
  ic : PySem.W.isClsIn K (nm.fn k.cls) = true
  pg : PySem.W.plainGet K (nm.fn k.cls) Str.empty = true
  cc : PySem.W.findIn K (.ref (nm.fn k.cls)) "__class__" = some (some (.builtin "object.__class__"))
  cg : PySem.W.specialIn K (.builtin "object.__class__") "__get__" = some (some (.builtin "getset_descriptor.__get__"))
  ct : PySem.W.takesIn K (.builtin "object.__class__") = some true
  co : PySem.W.mroIn K (nm.fn k.cls) (.type "object") = some true
  bt : ∀ t ∈ isiOk, PySem.W.kitOne K (.ref (nm.fn k.cls)) (.type t) = some false
  nk : ∀ t ∈ (["NoneType", "bool", "int", "str", "list", "tuple"] : List String), PySem.W.kitOne K (.type t) (.ref (nm.fn k.cls)) = some false ∧ PySem.W.subIn K (.type t) (.ref (nm.fn k.cls)) = some false
def slotV (ps : List Nat) (vs : List V) : List (Option V) := (ps.zip vs).foldl (fun acc z => SlX.putS z.1 z.2 acc) []
/-- an instance's object, its fields vs -/
def objH (C a dx : Addr) (k : CK) (vs : List V) : HO := match k.sl, vs with
  | none, vs => .ins C dx (k.fn.zip vs)
  | some _, [] => .ins C dx []
  | some ps, v :: vs => SlX.SlO a C dx (slotV ps (v :: vs))
/-- .. its dict's -/
def dicH (a : Addr) (k : CK) (vs : List V) : HO := match k.sl, vs with
  | none, _ => .own a
  | some _, [] => .own a
  | some _, _ :: _ => .xd []
mutual
/-- p stands as v: what is frozen lies in G, what is held alone in the cells -/
inductive Rep (ad : Ad) (K : PySem.W.Frag) (G : Hp) : PV → V → List Cell → Prop
  | non : Rep ad K G .non .non []
  | bl (b : Bool) : Rep ad K G (.bl b) (.bl b) []
  | int (i : Int) : Rep ad K G (.int i) (.int i) []
  | str (x : Str) : Rep ad K G (.str x) (.str x) []
  | ty (n : String) : Rep ad K G (.ty n) (.ty n) []
  | fn (k : Str) : Rep ad K G (.fn k) (.ref (ad k)) []
  | lstF {a : Addr} {xs : List PV} {vs : List V} {cs : List Cell} : G a = some (.lst vs) → RepL ad K G xs vs cs → Rep ad K G (.lst false xs) (.ref a) cs
  | lstO {a : Addr} {xs : List PV} {vs : List V} {cs : List Cell} : RepL ad K G xs vs cs → Rep ad K G (.lst true xs) (.ref a) ((a, .lst vs) :: cs)
  | lck {a : Addr} {xs : List PV} {vs : List V} : SqL K G a vs → RepL ad K G xs vs [] → Rep ad K G (.lck xs) (.ref a) []
  | tup {a : Addr} {xs : List PV} {vs : List V} {cs : List Cell} : G a = some (.tup vs) → RepL ad K G xs vs cs → Rep ad K G (.tup xs) (.ref a) cs
  | objF {a dx : Addr} {k : CK} {xs : List PV} {vs : List V} {cs : List Cell} : CkOk ad.nm K k → dx ≠ a → xs.length ≤ k.fn.length → G a = some (objH (ad.nm.fn k.cls) a dx k vs) → G dx = some (dicH a k vs) → RepL ad K G xs vs cs → Rep ad K G (.obj false k xs) (.ref a) cs
  | objO {a dx : Addr} {k : CK} {xs : List PV} {vs : List V} {cs : List Cell} : CkOk ad.nm K k → dx ≠ a → xs.length ≤ k.fn.length → RepL ad K G xs vs cs → Rep ad K G (.obj true k xs) (.ref a) ((a, objH (ad.nm.fn k.cls) a dx k vs) :: (dx, dicH a k vs) :: cs)
  | cl {k : CK} : CkOk ad.nm K k → Rep ad K G (.cl k) (.ref (ad.nm.fn k.cls)) []
  | opq (v : V) : Rep ad K G .opq v []
inductive RepL (ad : Ad) (K : PySem.W.Frag) (G : Hp) : List PV → List V → List Cell → Prop
  | nil : RepL ad K G [] [] []
  | cons {x : PV} {xs : List PV} {v : V} {vs : List V} {c cs : List Cell} : Rep ad K G x v c → RepL ad K G xs vs cs → RepL ad K G (x :: xs) (v :: vs) (c ++ cs)
end
def Sub (G G' : Hp) : Prop := ∀ p o, G p = some o → G' p = some o
theorem Sub.refl (G : Hp) : Sub G G := fun _ _ h => h
theorem Sub.trans {G G1 G2 : Hp} (a : Sub G G1) (b : Sub G1 G2) : Sub G G2 := fun p o h => b p o (a p o h)
theorem Sub.rd {G G' : Hp} (s : Sub G G') {a : Addr} {u : HO} (h : Rd G a u) : Rd G' a u := h.elim (fun z => .inl (s _ _ z)) fun ⟨o, z⟩ => .inr ⟨o, s _ _ z⟩
theorem Sub.sql {K : PySem.W.Frag} {G G' : Hp} (s : Sub G G') {a : Addr} {vs : List V} (h : SqL K G a vs) : SqL K G' a vs := h.elim (fun z => .inl (s.rd z)) .inr

variable {ad : Ad} {K : PySem.W.Frag} {G G' G1 G2 H H' H1 H2 : Hp}
mutual
theorem Rep.mono (s : Sub G G') : ∀ {p : PV} {v : V} {c : List Cell}, Rep ad K G p v c → Rep ad K G' p v c
  | _, _, _, .non => .non
  | _, _, _, .bl b => .bl b
  | _, _, _, .int i => .int i
  | _, _, _, .str x => .str x
  | _, _, _, .ty n => .ty n
  | _, _, _, .fn k => .fn k
  | _, _, _, .lstF h r => .lstF (s _ _ h) (RepL.mono s r)
  | _, _, _, .lstO r => .lstO (RepL.mono s r)
  | _, _, _, .lck h r => .lck (s.sql h) (RepL.mono s r)
  | _, _, _, .tup h r => .tup (s _ _ h) (RepL.mono s r)
  | _, _, _, .objF k n l h1 h2 r => .objF k n l (s _ _ h1) (s _ _ h2) (RepL.mono s r)
  | _, _, _, .objO k n l r => .objO k n l (RepL.mono s r)
  | _, _, _, .cl k => .cl k
  | _, _, _, .opq v => .opq v
theorem RepL.mono (s : Sub G G') : ∀ {p : List PV} {v : List V} {c : List Cell}, RepL ad K G p v c → RepL ad K G' p v c
  | _, _, _, .nil => .nil
  | _, _, _, .cons r t => .cons (Rep.mono s r) (RepL.mono s t)
end
mutual
/-- frozen: the cells have come into the frozen part -/
theorem Rep.frz (s : Sub G G') : ∀ {p : PV} {v : V} {c : List Cell}, Rep ad K G p v c → (∀ z ∈ c, G' z.1 = some z.2) → Rep ad K G' p.frz v []
  | _, _, _, .non, _ => .non
  | _, _, _, .bl b, _ => .bl b
  | _, _, _, .int i, _ => .int i
  | _, _, _, .str x, _ => .str x
  | _, _, _, .ty n, _ => .ty n
  | _, _, _, .fn k, _ => .fn k
  | _, _, _, .lstF h r, hc => .lstF (s _ _ h) (RepL.frz s r hc)
  | _, _, _, .lstO r, hc => .lstF (hc _ List.mem_cons_self) (RepL.frz s r fun z hz => hc z (List.mem_cons_of_mem _ hz))
  | _, _, _, .lck h r, _ => .lck (s.sql h) (RepL.frz s r fun _ z => nomatch z)
  | _, _, _, .tup h r, hc => .tup (s _ _ h) (RepL.frz s r hc)
  | _, _, _, .objF k n l h1 h2 r, hc => .objF k n (by rw [PV.frzL_length]; exact l) (s _ _ h1) (s _ _ h2) (RepL.frz s r hc)
  | _, _, _, .objO k n l r, hc => .objF k n (by rw [PV.frzL_length]; exact l) (hc _ List.mem_cons_self) (hc _ (List.mem_cons_of_mem _ List.mem_cons_self)) (RepL.frz s r fun z hz => hc z (List.mem_cons_of_mem _ (List.mem_cons_of_mem _ hz)))
  | _, _, _, .cl k, _ => .cl k
  | _, _, _, .opq v, _ => .opq v
theorem RepL.frz (s : Sub G G') : ∀ {p : List PV} {v : List V} {c : List Cell}, RepL ad K G p v c → (∀ z ∈ c, G' z.1 = some z.2) → RepL ad K G' (PV.frzL p) v []
  | _, _, _, .nil, _ => .nil
  | _, _, _, .cons r t, hc => .cons (c := []) (cs := []) (Rep.frz s r fun z hz => hc z (List.mem_append_left _ hz)) (RepL.frz s t fun z hz => hc z (List.mem_append_right _ hz))
end
mutual
theorem Rep.nocell : ∀ {p : PV} {v : V} {c : List Cell}, Rep ad K G p v c → p.fz = true → c = []
  | _, _, _, .non, _ => rfl
  | _, _, _, .bl b, _ => rfl
  | _, _, _, .int i, _ => rfl
  | _, _, _, .str x, _ => rfl
  | _, _, _, .ty n, _ => rfl
  | _, _, _, .fn k, _ => rfl
  | _, _, _, .lstF h r, e => RepL.nocell r (by simpa [PV.fz] using e)
  | _, _, _, .lstO r, h => absurd h (by simp [PV.fz])
  | _, _, _, .lck h r, _ => rfl
  | _, _, _, .tup (xs := xs) _ r, h => RepL.nocell r h
  | _, _, _, .objF _ _ _ _ _ r, h => RepL.nocell r (by simpa [PV.fz] using h)
  | _, _, _, .objO _ _ _ r, h => absurd h (by simp [PV.fz])
  | _, _, _, .cl k, _ => rfl
  | _, _, _, .opq v, _ => rfl
theorem RepL.nocell : ∀ {p : List PV} {v : List V} {c : List Cell}, RepL ad K G p v c → PV.fzL p = true → c = []
  | _, _, _, .nil, _ => rfl
  | _, _, _, .cons r t, h => by
    simp only [PV.fzL, Bool.and_eq_true] at h
    rw [Rep.nocell r h.1, RepL.nocell t h.2]
    rfl
end
theorem RepL.length : ∀ {p : List PV} {v : List V} {c : List Cell}, RepL ad K G p v c → p.length = v.length
  | _, _, _, .nil => rfl
  | _, _, _, .cons _ t => by simp [RepL.length t]
theorem RepL.get : ∀ {p : List PV} {v : List V} {c : List Cell}, RepL ad K G p v c → ∀ {i : Nat} {x : PV}, p[i]? = some x → ∃ w d, v[i]? = some w ∧ Rep ad K G x w d ∧ ∀ z ∈ d, z ∈ c
  | _, _, _, .nil, i, x, h => by simp at h
  | _, _, _, .cons r t, 0, x, h => by
    simp at h
    subst h
    exact ⟨_, _, rfl, r, fun z hz => List.mem_append_left _ hz⟩
  | _, _, _, .cons r t, i + 1, x, h => by
    obtain ⟨w, d, e1, e2, e3⟩ := RepL.get t (i := i) (x := x) (by simpa using h)
    exact ⟨w, d, by simpa using e1, e2, fun z hz => List.mem_append_right _ (e3 z hz)⟩
theorem RepL.append : ∀ {p q : List PV} {v w : List V} {c d : List Cell}, RepL ad K G p v c → RepL ad K G q w d → RepL ad K G (p ++ q) (v ++ w) (c ++ d)
  | _, _, _, _, _, _, .nil, s => s
  | _, _, _, _, _, _, .cons r t, s => by
    rw [List.append_assoc]
    exact .cons r (RepL.append t s)
theorem RepL.app0 {p q : List PV} {v w : List V} (a : RepL ad K G p v []) (b : RepL ad K G q w []) : RepL ad K G (p ++ q) (v ++ w) [] := RepL.append a b
theorem RepL.cons0 {x : PV} {xs : List PV} {v : V} {vs : List V} (a : Rep ad K G x v []) (b : RepL ad K G xs vs []) : RepL ad K G (x :: xs) (v :: vs) [] := .cons (c := []) (cs := []) a b
theorem RepL.inv0 {x : PV} {xs : List PV} {v : V} {vs : List V} (a : RepL ad K G (x :: xs) (v :: vs) []) : Rep ad K G x v [] ∧ RepL ad K G xs vs [] := by
  generalize e : ([] : List Cell) = c at a
  cases a with
  | cons r t =>
    obtain ⟨rfl, rfl⟩ := List.append_eq_nil_iff.mp e.symm
    exact ⟨r, t⟩
theorem RepL.inv0' {x : PV} {xs : List PV} {vs : List V} (a : RepL ad K G (x :: xs) vs []) : ∃ v ws, vs = v :: ws ∧ Rep ad K G x v [] ∧ RepL ad K G xs ws [] := by
  cases vs with
  | nil => nomatch a
  | cons v ws => exact ⟨v, ws, rfl, a.inv0⟩
theorem RepL.nil' {vs : List V} {c : List Cell} (a : RepL ad K G [] vs c) : vs = [] ∧ c = [] := by
  cases a
  exact ⟨rfl, rfl⟩
theorem RepL.take0 : ∀ (n : Nat) {p : List PV} {v : List V}, RepL ad K G p v [] → RepL ad K G (p.take n) (v.take n) []
  | 0, _, _, _ => .nil
  | n + 1, [], _, h => by obtain ⟨rfl, _⟩ := h.nil'; exact .nil
  | n + 1, x :: p, _, h => by
    obtain ⟨v, ws, rfl, h1, h2⟩ := h.inv0'
    exact .cons0 h1 (RepL.take0 n h2)
theorem RepL.drop0 : ∀ (n : Nat) {p : List PV} {v : List V}, RepL ad K G p v [] → RepL ad K G (p.drop n) (v.drop n) []
  | 0, _, _, h => h
  | n + 1, [], _, h => by obtain ⟨rfl, _⟩ := h.nil'; exact .nil
  | n + 1, x :: p, _, h => by
    obtain ⟨v, ws, rfl, h1, h2⟩ := h.inv0'
    exact RepL.drop0 n h2
theorem RepL.rev0 : ∀ {p : List PV} {v : List V}, RepL ad K G p v [] → RepL ad K G p.reverse v.reverse []
  | [], _, h => by obtain ⟨rfl, _⟩ := h.nil'; exact .nil
  | x :: p, _, h => by
    obtain ⟨v, ws, rfl, h1, h2⟩ := h.inv0'
    rw [List.reverse_cons, List.reverse_cons]
    exact (RepL.rev0 h2).app0 (.cons0 h1 .nil)
theorem RepL.rep0 {p : List PV} {v : List V} (h : RepL ad K G p v []) : ∀ n : Nat, RepL ad K G (List.replicate n p).flatten (List.replicate n v).flatten []
  | 0 => .nil
  | n + 1 => by
    rw [List.replicate_succ, List.replicate_succ, List.flatten_cons, List.flatten_cons]
    exact h.app0 (RepL.rep0 h n)
theorem RepL.set0 : ∀ (i : Nat) {p : List PV} {v : List V} {x : PV} {w : V}, RepL ad K G p v [] → Rep ad K G x w [] → RepL ad K G (p.set i x) (v.set i w) []
  | _, [], _, x, w, h, _ => by obtain ⟨rfl, _⟩ := h.nil'; exact .nil
  | 0, y :: p, _, x, w, h, r => by
    obtain ⟨v, ws, rfl, h1, h2⟩ := h.inv0'
    exact .cons0 r h2
  | i + 1, y :: p, _, x, w, h, r => by
    obtain ⟨v, ws, rfl, h1, h2⟩ := h.inv0'
    exact .cons0 h1 (RepL.set0 i h2 r)

mutual
theorem Rep.re {ad' : Ad} (h : ad.nm = ad'.nm) : ∀ {p : PV} {v : V} {c : List Cell}, Rep ad K G p v c → Rep ad' K G p v c
  | _, _, _, .non => .non
  | _, _, _, .bl b => .bl b
  | _, _, _, .int i => .int i
  | _, _, _, .str x => .str x
  | _, _, _, .ty n => .ty n
  | _, _, _, .fn k => by
    have e : ad.nm.fn k = ad'.nm.fn k := by rw [h]
    show Rep ad' K G (.fn k) (.ref (ad.nm.fn k)) []
    rw [e]
    exact .fn k
  | _, _, _, .lstF g r => .lstF g (RepL.re h r)
  | _, _, _, .lstO r => .lstO (RepL.re h r)
  | _, _, _, .lck g r => .lck g (RepL.re h r)
  | _, _, _, .tup g r => .tup g (RepL.re h r)
  | _, _, _, .objF k n l h1 h2 r => .objF (h ▸ k) n l (h ▸ h1) h2 (RepL.re h r)
  | _, _, _, .objO (a := a) (dx := dx) (k := kk) (vs := vs) (cs := cs) k n l r => by
    rw [h]
    exact .objO (h ▸ k) n l (RepL.re h r)
  | _, _, _, .cl (k := kk) k => by
    rw [h]
    exact .cl (h ▸ k)
  | _, _, _, .opq v => .opq v
theorem RepL.re {ad' : Ad} (h : ad.nm = ad'.nm) : ∀ {p : List PV} {v : List V} {c : List Cell}, RepL ad K G p v c → RepL ad' K G p v c
  | _, _, _, .nil => .nil
  | _, _, _, .cons r t => .cons (Rep.re h r) (RepL.re h t)
end
/-- the exception's dict stands at d -/
inductive RepFs (ad : Ad) (K : PySem.W.Frag) (G : Hp) : List (Str × PV) → List (Str × V) → Prop
  | nil : RepFs ad K G [] []
  | cons {f : Str} {p : PV} {fs : List (Str × PV)} {v : V} {vs : List (Str × V)} : Rep ad K G p v [] → RepFs ad K G fs vs → RepFs ad K G ((f, p) :: fs) ((f, v) :: vs)
/-- what the written part says of a class of exceptions -/
structure XdOk (ad : Ad) (K : PySem.W.Frag) (d : XD) : Prop where
  xf : XfC K (ad d.cls)
  ec : ExcC K (ad d.cls)
  fno : ∀ f ∈ d.fs, PySem.W.findIn K (.ref (ad d.cls)) f = some none
  rel : ∀ k b, d.rel.lookup k = some b → PySem.W.exmOne K (.ref (ad d.cls)) (.ref (ad k)) = some b
  ty : ∀ t b, d.ty.lookup t = some b → PySem.W.kitOne K (.ref (ad d.cls)) (.type t) = some b
theorem XdOk.re {ad' : Ad} (h : ad.nm = ad'.nm) {d : XD} (x : XdOk ad K d) : XdOk ad' K d := by
  obtain ⟨h1, h2, h3, h4, h5⟩ := x
  rw [h] at h1 h2 h3 h4 h5
  exact ⟨h1, h2, h3, h4, h5⟩
def XRep (ad : Ad) (K : PySem.W.Frag) (G : Hp) (x : PX) (d : Addr) : Prop := ∃ fvs, G d = some (.xd fvs) ∧ RepFs ad K G x.fs fvs ∧ XdOk ad K x.xd ∧ ∀ f ∈ x.fs.map (·.1), f ∈ x.xd.fs
theorem RepFs.mono (s : Sub G G') : ∀ {x : List (Str × PV)} {v : List (Str × V)}, RepFs ad K G x v → RepFs ad K G' x v
  | _, _, .nil => .nil
  | _, _, .cons r t => .cons (r.mono s) (RepFs.mono s t)
theorem RepFs.re {ad' : Ad} (h : ad.nm = ad'.nm) : ∀ {x : List (Str × PV)} {v : List (Str × V)}, RepFs ad K G x v → RepFs ad' K G x v
  | _, _, .nil => .nil
  | _, _, .cons r t => .cons (r.re h) (RepFs.re h t)
theorem XRep.mono (s : Sub G G') {x : PX} {d : Addr} (h : XRep ad K G x d) : XRep ad K G' x d := by
  obtain ⟨fvs, e, r, z⟩ := h
  exact ⟨fvs, s _ _ e, r.mono s, z⟩
theorem XRep.re {ad' : Ad} (h : ad.nm = ad'.nm) {x : PX} {d : Addr} (r : XRep ad K G x d) : XRep ad' K G x d := by
  obtain ⟨fvs, e, r, z, z2⟩ := r
  exact ⟨fvs, e, r.re h, z.re h, z2⟩

/-! ### the slots -/
inductive Slots0 (ad : Ad) (K : PySem.W.Frag) (G : Hp) : Fr → St → List Cell → Prop
  | nil : Slots0 ad K G [] [] []
  | none {v : Option V} {ρ : Fr} {σ : St} {c : List Cell} : Slots0 ad K G ρ σ c → Slots0 ad K G (none :: ρ) (v :: σ) c
  | some {p : PV} {v : V} {ρ : Fr} {σ : St} {c cs : List Cell} : Rep ad K G p v c → Slots0 ad K G ρ σ cs → Slots0 ad K G (some p :: ρ) (some v :: σ) (c ++ cs)
theorem Slots0.length : ∀ {ρ : Fr} {σ : St} {c : List Cell}, Slots0 ad K G ρ σ c → ρ.length = σ.length
  | _, _, _, .nil => rfl
  | _, _, _, .none t => by simp [Slots0.length t]
  | _, _, _, .some _ t => by simp [Slots0.length t]
theorem Slots0.mono (s : Sub G G') : ∀ {ρ : Fr} {σ : St} {c : List Cell}, Slots0 ad K G ρ σ c → Slots0 ad K G' ρ σ c
  | _, _, _, .nil => .nil
  | _, _, _, .none t => .none (Slots0.mono s t)
  | _, _, _, .some r t => .some (r.mono s) (Slots0.mono s t)
theorem at_cons_zero {x : Option PV} {ρ : Fr} : Fr.at (x :: ρ) 0 = x := rfl
theorem at_cons_succ {x : Option PV} {ρ : Fr} {i : Nat} : Fr.at (x :: ρ) (i + 1) = Fr.at ρ i := rfl
/-- the i-th slot is taken out -/
theorem Slots0.out : ∀ {ρ : Fr} {σ : St} {c : List Cell}, Slots0 ad K G ρ σ c → ∀ {i : Nat} {p : PV}, Fr.at ρ i = Option.some p →
    ∃ v d r, σ[i]? = Option.some (Option.some v) ∧ Rep ad K G p v d ∧ Slots0 ad K G (ρ.set i Option.none) σ r ∧ c.Perm (d ++ r)
  | _, _, _, .nil, i, p, h => by cases i <;> cases h
  | _, _, _, .none (v := v) t, 0, p, h => by cases h
  | _, _, _, .none (v := v) t, i + 1, p, h => by
    obtain ⟨w, d, r, e1, e2, e3, e4⟩ := Slots0.out t (i := i) (p := p) h
    exact ⟨w, d, r, by simpa using e1, e2, .none e3, e4⟩
  | _, _, _, .some (p := q) (v := v) r t, 0, p, h => by
    have e : q = p := Option.some.inj h
    subst e
    exact ⟨v, _, _, rfl, r, .none t, List.Perm.refl _⟩
  | _, _, _, .some (c := c) (cs := cs) r t, i + 1, p, h => by
    obtain ⟨w, d, s, e1, e2, e3, e4⟩ := Slots0.out t (i := i) (p := p) h
    refine ⟨w, d, c ++ s, by simpa using e1, e2, .some r e3, ?_⟩
    refine (e4.append_left c).trans ?_
    rw [← List.append_assoc, ← List.append_assoc]
    exact List.perm_append_comm.append_right s
/-- the i-th slot is emptied: its cells go -/
theorem Slots0.drop : ∀ {ρ : Fr} {σ : St} {c : List Cell}, Slots0 ad K G ρ σ c → ∀ (i : Nat), ∃ d r, Slots0 ad K G (ρ.set i Option.none) σ r ∧ c.Perm (d ++ r)
  | _, _, _, .nil, i => ⟨[], [], by cases i <;> exact .nil, List.Perm.refl _⟩
  | _, _, _, .none (v := v) t, 0 => ⟨[], _, .none t, List.Perm.refl _⟩
  | _, _, _, .none (v := v) t, i + 1 => by
    obtain ⟨d, r, e3, e4⟩ := Slots0.drop t i
    exact ⟨d, r, .none e3, e4⟩
  | _, _, _, .some r t, 0 => ⟨_, _, .none t, List.Perm.refl _⟩
  | _, _, _, .some (c := c) (cs := cs) r t, i + 1 => by
    obtain ⟨d, s, e3, e4⟩ := Slots0.drop t i
    refine ⟨d, c ++ s, .some r e3, ?_⟩
    refine (e4.append_left c).trans ?_
    rw [← List.append_assoc, ← List.append_assoc]
    exact List.perm_append_comm.append_right s
/-- an empty slot takes a value -/
theorem Slots0.put : ∀ {ρ : Fr} {σ : St} {c : List Cell}, Slots0 ad K G ρ σ c → ∀ {i : Nat} {p : PV} {v : V} {d : List Cell}, Fr.at ρ i = Option.none → i < ρ.length → Rep ad K G p v d →
    ∃ r, Slots0 ad K G (ρ.set i (Option.some p)) (σ.set i (Option.some v)) r ∧ r.Perm (d ++ c)
  | _, _, _, .nil, i, p, v, d, _, hi, _ => by simp at hi
  | _, _, _, .none t, 0, p, v, d, _, _, r => ⟨_, .some r t, List.Perm.refl _⟩
  | _, _, _, .none t, i + 1, p, v, d, h, hi, r => by
    obtain ⟨s, e1, e2⟩ := Slots0.put t (i := i) h (by simpa using hi) r
    exact ⟨s, .none e1, e2⟩
  | _, _, _, .some _ t, 0, p, v, d, h, _, _ => by cases h
  | _, _, _, .some (c := c) (cs := cs) q t, i + 1, p, v, d, h, hi, r => by
    obtain ⟨s, e1, e2⟩ := Slots0.put t (i := i) h (by simpa using hi) r
    refine ⟨c ++ s, .some q e1, ?_⟩
    refine (e2.append_left c).trans ?_
    rw [← List.append_assoc, ← List.append_assoc]
    exact List.perm_append_comm.append_right _
theorem at_set_same {ρ : Fr} {i : Nat} {x : Option PV} (h : i < ρ.length) : Fr.at (ρ.set i x) i = x := by
  unfold Fr.at
  simp [List.getD, h]
theorem at_set_none {ρ : Fr} {i : Nat} : Fr.at (ρ.set i none) i = none := by
  unfold Fr.at
  rw [List.getD_eq_getElem?_getD, List.getElem?_set]
  split <;> (try split) <;> simp_all
theorem at_lt {ρ : Fr} {i : Nat} {p : PV} (h : Fr.at ρ i = some p) : i < ρ.length := by
  unfold Fr.at at h
  rw [List.getD_eq_getElem?_getD] at h
  cases q : ρ[i]? with
  | none => rw [q] at h; cases h
  | some x => exact (List.getElem?_eq_some_iff.mp q).1
theorem set_set_none {ρ : Fr} {i : Nat} {x y : Option PV} : (ρ.set i x).set i y = ρ.set i y := List.set_set ..
theorem set_same {α : Type} {σ : List α} {i : Nat} {v : α} (h : σ[i]? = some v) : σ.set i v = σ := by
  apply List.ext_getElem?
  intro j
  rw [List.getElem?_set]
  by_cases e : i = j
  · subst e
    rw [if_pos rfl]
    rw [if_pos (List.getElem?_eq_some_iff.mp h).1, h]
  · rw [if_neg e]
/-- any slot takes a value; what it held goes -/
theorem Slots0.set {ρ : Fr} {σ : St} {c : List Cell} (s : Slots0 ad K G ρ σ c) {i : Nat} {p : PV} {v : V} {d : List Cell} (hi : i < ρ.length) (r : Rep ad K G p v d) :
    ∃ g r', Slots0 ad K G (ρ.set i (Option.some p)) (σ.set i (Option.some v)) r' ∧ (d ++ c).Perm (g ++ r') := by
  obtain ⟨g, r1, s1, p1⟩ := s.drop i
  obtain ⟨r2, s2, p2⟩ := s1.put (i := i) at_set_none (by simpa using hi) r
  rw [set_set_none] at s2
  refine ⟨g, r2, s2, ?_⟩
  refine (p1.append_left d).trans ?_
  refine List.Perm.trans ?_ ((p2.append_left g).symm)
  rw [← List.append_assoc, ← List.append_assoc]
  exact List.perm_append_comm.append_right r1

theorem Slots0.re {ad' : Ad} (h : ad.nm = ad'.nm) : ∀ {ρ : Fr} {σ : St} {c : List Cell}, Slots0 ad K G ρ σ c → Slots0 ad' K G ρ σ c
  | _, _, _, .nil => .nil
  | _, _, _, .none t => .none (Slots0.re h t)
  | _, _, _, .some r t => .some (r.re h) (Slots0.re h t)
theorem Rep.toB {p : PV} {v : V} {c : List Cell} (h : Rep ad K G p v c) : Rep ad.base K G p v c := Rep.re (ad := ad) (ad' := ad.base) rfl h
theorem Rep.ofB {p : PV} {v : V} {c : List Cell} (h : Rep ad.base K G p v c) : Rep ad K G p v c := Rep.re (ad := ad.base) (ad' := ad) rfl h
theorem RepL.toB {p : List PV} {v : List V} {c : List Cell} (h : RepL ad K G p v c) : RepL ad.base K G p v c := RepL.re (ad := ad) (ad' := ad.base) rfl h
theorem RepL.ofB {p : List PV} {v : List V} {c : List Cell} (h : RepL ad.base K G p v c) : RepL ad K G p v c := RepL.re (ad := ad.base) (ad' := ad) rfl h
theorem Slots0.ofB {ρ : Fr} {σ : St} {c : List Cell} (h : Slots0 ad.base K G ρ σ c) : Slots0 ad K G ρ σ c := Slots0.re (ad := ad.base) (ad' := ad) rfl h
theorem XRep.toB {x : PX} {d : Addr} (h : XRep ad K G x d) : XRep ad.base K G x d := XRep.re (ad := ad) (ad' := ad.base) rfl h
theorem XRep.ofB {x : PX} {d : Addr} (h : XRep ad.base K G x d) : XRep ad K G x d := XRep.re (ad := ad.base) (ad' := ad) rfl h
/-- what the slots say of the exception that is held -/
def XcOk (ad : Ad) (K : PySem.W.Frag) (σ : St) (G : Hp) : Prop := match ad.cur with
  | Option.none => True
  | Option.some z => σ[z.i]? = Option.some (Option.some (.ref z.a)) ∧ XRep ad.base K G z.x z.d
/-- slot i may be stored -/
def Free (ad : Ad) (i : Nat) : Prop := ∀ z, ad.cur = Option.some z → z.i ≠ i
theorem Free.of_none {i : Nat} (h : ad.cur = Option.none) : Free ad i := fun z e => by rw [h] at e; cases e
theorem XcOk.mono {σ : St} (s : Sub G G') (h : XcOk ad K σ G) : XcOk ad K σ G' := by
  unfold XcOk at h ⊢
  split
  · trivial
  · rename_i z e
    rw [e] at h
    exact ⟨h.1, h.2.mono s⟩
theorem XcOk.set {σ : St} {i : Nat} {x : Option V} (h : XcOk ad K σ G) (f : Free ad i) : XcOk ad K (σ.set i x) G := by
  unfold XcOk at h ⊢
  split
  · trivial
  · rename_i z e
    rw [e] at h
    exact ⟨by rw [List.getElem?_set_ne (Ne.symm (f z e))]; exact h.1, h.2⟩
theorem XcOk.of_none {σ : St} (h : ad.cur = Option.none) : XcOk ad K σ G := by
  unfold XcOk
  rw [h]
  trivial
structure Slots (ad : Ad) (K : PySem.W.Frag) (G : Hp) (ρ : Fr) (σ : St) (c : List Cell) : Prop where
  b : Slots0 ad K G ρ σ c
  x : XcOk ad K σ G
section
variable {ρ : Fr} {σ : St} {c : List Cell}
theorem Slots.length (s : Slots ad K G ρ σ c) : ρ.length = σ.length := s.b.length
theorem Slots.mono (h : Sub G G') (s : Slots ad K G ρ σ c) : Slots ad K G' ρ σ c := ⟨s.b.mono h, s.x.mono h⟩
theorem Slots.out (s : Slots ad K G ρ σ c) {i : Nat} {p : PV} (h : Fr.at ρ i = Option.some p) :
    ∃ v d r, σ[i]? = Option.some (Option.some v) ∧ Rep ad K G p v d ∧ Slots ad K G (ρ.set i Option.none) σ r ∧ c.Perm (d ++ r) := by
  obtain ⟨v, d, r, e1, e2, e3, e4⟩ := s.b.out h
  exact ⟨v, d, r, e1, e2, ⟨e3, s.x⟩, e4⟩
theorem Slots.drop (s : Slots ad K G ρ σ c) (i : Nat) : ∃ d r, Slots ad K G (ρ.set i Option.none) σ r ∧ c.Perm (d ++ r) := by
  obtain ⟨d, r, e3, e4⟩ := s.b.drop i
  exact ⟨d, r, ⟨e3, s.x⟩, e4⟩
/-- an empty slot is told of: it held v all along -/
theorem Slots.tell (s : Slots ad K G ρ σ c) {i : Nat} {p : PV} {v : V} {d : List Cell} (h : Fr.at ρ i = Option.none) (hi : i < ρ.length) (hv : σ[i]? = Option.some (Option.some v)) (r : Rep ad K G p v d) :
    ∃ r, Slots ad K G (ρ.set i (Option.some p)) σ r ∧ r.Perm (d ++ c) := by
  obtain ⟨r', e1, e2⟩ := s.b.put h hi r
  rw [set_same hv] at e1
  exact ⟨r', ⟨e1, s.x⟩, e2⟩
theorem Slots.put (s : Slots ad K G ρ σ c) {i : Nat} {p : PV} {v : V} {d : List Cell} (f : Free ad i) (h : Fr.at ρ i = Option.none) (hi : i < ρ.length) (r : Rep ad K G p v d) :
    ∃ r, Slots ad K G (ρ.set i (Option.some p)) (σ.set i (Option.some v)) r ∧ r.Perm (d ++ c) := by
  obtain ⟨r', e1, e2⟩ := s.b.put h hi r
  exact ⟨r', ⟨e1, s.x.set f⟩, e2⟩
theorem Slots.set (s : Slots ad K G ρ σ c) {i : Nat} {p : PV} {v : V} {d : List Cell} (f : Free ad i) (hi : i < ρ.length) (r : Rep ad K G p v d) :
    ∃ g r', Slots ad K G (ρ.set i (Option.some p)) (σ.set i (Option.some v)) r' ∧ (d ++ c).Perm (g ++ r') := by
  obtain ⟨g, r', e1, e2⟩ := s.b.set hi r
  exact ⟨g, r', ⟨e1, s.x.set f⟩, e2⟩
/-- .. what it held is told anew -/
theorem Slots.retell (s : Slots ad K G ρ σ c) {i : Nat} {p : PV} {v : V} {d : List Cell} (hi : i < ρ.length) (hv : σ[i]? = Option.some (Option.some v)) (r : Rep ad K G p v d) :
    ∃ g r', Slots ad K G (ρ.set i (Option.some p)) σ r' ∧ (d ++ c).Perm (g ++ r') := by
  obtain ⟨g, r', e1, e2⟩ := s.b.set hi r
  rw [set_same hv] at e1
  exact ⟨g, r', ⟨e1, s.x⟩, e2⟩
end

/-! ### the heap: frozen and held -/
def keys (c : List Cell) : List Addr := c.map (·.1)
structure Hold (G : Hp) (c : List Cell) (H : Hp) : Prop where
  fz : Sub G H
  at_ : ∀ z ∈ c, H z.1 = some z.2
  no : ∀ z ∈ c, G z.1 = none
  nd : (keys c).Nodup
structure Step (G : Hp) (c : List Cell) (H G' : Hp) (c' : List Cell) (H' : Hp) : Prop where
  fz : Sub G G'
  kp : ∀ p o, H p = some o → p ∉ keys c → H' p = some o
  nw : ∀ p, (G' p ≠ none ∨ p ∈ keys c') → G p ≠ none ∨ p ∈ keys c ∨ H p = none
theorem keys_perm {c d : List Cell} (h : c.Perm d) : (keys c).Perm (keys d) := h.map _
theorem keys_append {c d : List Cell} : keys (c ++ d) = keys c ++ keys d := by simp [keys]
theorem Hold.perm {c d : List Cell} (h : Hold G c H) (p : c.Perm d) : Hold G d H :=
  ⟨h.fz, fun z hz => h.at_ z (p.mem_iff.mpr hz), fun z hz => h.no z (p.mem_iff.mpr hz), (keys_perm p).nodup_iff.mp h.nd⟩
theorem Hold.left {c d : List Cell} (h : Hold G (c ++ d) H) : Hold G c H :=
  ⟨h.fz, fun z hz => h.at_ z (List.mem_append_left _ hz), fun z hz => h.no z (List.mem_append_left _ hz), by
    have := h.nd
    rw [keys_append] at this
    exact (List.nodup_append.mp this).1⟩
theorem Hold.right {c d : List Cell} (h : Hold G (c ++ d) H) : Hold G d H :=
  ⟨h.fz, fun z hz => h.at_ z (List.mem_append_right _ hz), fun z hz => h.no z (List.mem_append_right _ hz), by
    have := h.nd
    rw [keys_append] at this
    exact (List.nodup_append.mp this).2.1⟩
theorem Step.refl : Step G c H G c H := ⟨Sub.refl G, fun _ _ h _ => h, fun _ h => h.elim .inl fun h => .inr (.inl h)⟩
theorem Step.perm {c d c' d' : List Cell} (s : Step G c H G' c' H') (p : c.Perm d) (q : c'.Perm d') : Step G d H G' d' H' :=
  ⟨s.fz, fun a o h n => s.kp a o h fun z => n ((keys_perm p).mem_iff.mp z), fun a h => (s.nw a (h.elim .inl fun z => .inr ((keys_perm q).mem_iff.mpr z))).elim .inl fun z => .inr (z.elim (fun z => .inl ((keys_perm p).mem_iff.mp z)) .inr)⟩
/-- cells that are no longer told of -/
theorem Step.less {c c' d' : List Cell} (s : Step G c H G' c' H') (q : ∀ z ∈ d', z ∈ c') : Step G c H G' d' H' :=
  ⟨s.fz, s.kp, fun a h => s.nw a (h.elim .inl fun z => .inr (by
    obtain ⟨x, hx, rfl⟩ := List.mem_map.mp z
    exact List.mem_map.mpr ⟨x, q x hx, rfl⟩))⟩
theorem mem_keys {z : Cell} {c : List Cell} (h : z ∈ c) : z.1 ∈ keys c := List.mem_map.mpr ⟨z, h, rfl⟩
theorem Hold.key {c : List Cell} (h : Hold G c H) {p : Addr} (hp : p ∈ keys c) : G p = none ∧ ∃ o, H p = some o ∧ (p, o) ∈ c := by
  obtain ⟨z, hz, rfl⟩ := List.mem_map.mp hp
  exact ⟨h.no z hz, z.2, h.at_ z hz, hz⟩
theorem Hold.apart {c d : List Cell} (h : Hold G (c ++ d) H) {p : Addr} (hp : p ∈ keys c) : p ∉ keys d := by
  have := h.nd
  rw [keys_append] at this
  exact fun hd => (List.nodup_append.mp this).2.2 p hp p hd rfl
theorem Step.trans {c c1 c2 : List Cell} (a : Step G c H G1 c1 H1) (b : Step G1 c1 H1 G2 c2 H2) (h1 : Hold G1 c1 H1) : Step G c H G2 c2 H2 :=
  ⟨a.fz.trans b.fz, fun p o h n => b.kp p o (a.kp p o h n) fun z => (a.nw p (.inr z)).elim (fun g => by
      cases q : G p with
      | none => exact g q
      | some u =>
        have := a.fz p u q
        rw [(h1.key z).1] at this
        cases this) fun g => g.elim n fun g => (by rw [h] at g; cases g), fun p h => (b.nw p h).elim (fun g => a.nw p (.inl g)) fun g => g.elim (fun g => a.nw p (.inr g)) fun g => by
      cases q : H p with
      | none => exact .inr (.inr rfl)
      | some o =>
        by_cases hn : p ∈ keys c
        · exact .inr (.inl hn)
        · rw [a.kp p o q hn] at g; cases g⟩
/-- what happens beside the cells t leaves them -/
theorem Hold.frame {c1 c2 t : List Cell} (h1 : Hold G1 (c1 ++ t) H1) (b : Step G1 c1 H1 G2 c2 H2) (h2 : Hold G2 c2 H2) : Hold G2 (c2 ++ t) H2 := by
  have out : ∀ p, p ∈ keys t → ¬ (G2 p ≠ none ∨ p ∈ keys c2) := fun p hp hq => by
    obtain ⟨g, o, e, _⟩ := h1.right.key hp
    rcases b.nw p hq with z | z | z
    · exact z g
    · exact h1.apart z hp
    · rw [e] at z; cases z
  refine ⟨h2.fz, fun z hz => ?_, fun z hz => ?_, ?_⟩
  · rcases List.mem_append.mp hz with hz | hz
    · exact h2.at_ z hz
    · exact b.kp _ _ (h1.right.at_ z hz) fun q => h1.apart q (mem_keys hz)
  · rcases List.mem_append.mp hz with hz | hz
    · exact h2.no z hz
    · cases q : G2 z.1 with
      | none => rfl
      | some o => exact (out z.1 (mem_keys hz) (.inl (by rw [q]; exact fun e => by cases e))).elim
  · rw [keys_append]
    refine List.nodup_append.mpr ⟨h2.nd, h1.right.nd, fun p hp q hq e => ?_⟩
    subst e
    exact out p hq (.inr hp)
theorem Step.frame {c c1 c2 t : List Cell} (a : Step G c H G1 (c1 ++ t) H1) (b : Step G1 c1 H1 G2 c2 H2) (h1 : Hold G1 (c1 ++ t) H1) : Step G c H G2 (c2 ++ t) H2 := by
  have a1 : Step G c H G1 c1 H1 := a.less fun z hz => List.mem_append_left _ hz
  have r := a1.trans b h1.left
  refine ⟨r.fz, r.kp, fun p hp => ?_⟩
  rcases hp with hp | hp
  · exact r.nw p (.inl hp)
  · rw [keys_append] at hp
    rcases List.mem_append.mp hp with hp | hp
    · exact r.nw p (.inr hp)
    · exact a.nw p (.inr (by rw [keys_append]; exact List.mem_append_right _ hp))
theorem Step.fr0 {c1 c2 t : List Cell} (b : Step G1 c1 H1 G2 c2 H2) (h1 : Hold G1 (c1 ++ t) H1) : Step G1 (c1 ++ t) H1 G2 (c2 ++ t) H2 :=
  Step.frame (Step.refl (c := c1 ++ t)) b h1

/-! ### cells are frozen -/
def addc (G : Hp) (t : List Cell) : Hp := fun p => match t.lookup p with
  | some o => some o
  | none => G p
theorem lookup_mem : ∀ {t : List Cell} {p : Addr} {o : HO}, t.lookup p = some o → (p, o) ∈ t
  | [], _, _, h => by cases h
  | (q, u) :: t, p, o, h => by
    rw [List.lookup_cons] at h
    cases e : p == q with
    | true =>
      rw [e] at h
      have e1 : p = q := by simpa using e
      have e2 : u = o := Option.some.inj h
      rw [e1, e2]
      exact List.mem_cons_self
    | false =>
      rw [e] at h
      exact List.mem_cons_of_mem _ (lookup_mem h)
theorem lookup_of_mem : ∀ {t : List Cell}, (keys t).Nodup → ∀ {z : Cell}, z ∈ t → t.lookup z.1 = some z.2
  | [], _, z, h => by cases h
  | (q, u) :: t, nd, z, h => by
    rw [List.lookup_cons]
    have nd' := List.nodup_cons.mp (show (q :: keys t).Nodup from nd)
    rcases List.mem_cons.mp h with h2 | h2
    · rw [h2]; simp
    · have hk : z.1 ∈ keys t := mem_keys h2
      have : (z.1 == q) = false := by
        simp only [beq_eq_false_iff_ne, ne_eq]
        intro e
        exact nd'.1 (e ▸ hk)
      rw [this]
      exact lookup_of_mem nd'.2 h2
theorem lookup_none {t : List Cell} {p : Addr} (h : t.lookup p = none) : p ∉ keys t := fun hp => by
  induction t with
  | nil => cases hp
  | cons z t ih =>
    obtain ⟨q, u⟩ := z
    rw [List.lookup_cons] at h
    cases e : p == q with
    | true => rw [e] at h; cases h
    | false =>
      rw [e] at h
      rcases List.mem_cons.mp (show p ∈ q :: keys t from hp) with z | z
      · rw [z] at e; simp at e
      · exact ih h z
theorem addc_sub {c : List Cell} (h : Hold G c H) : Sub G (addc G c) := fun p o e => by
  unfold addc
  cases q : c.lookup p with
  | none => exact e
  | some u =>
    have := h.no _ (lookup_mem q)
    rw [show G p = none from this] at e
    cases e
theorem addc_at {c : List Cell} (h : Hold G c H) : ∀ z ∈ c, addc G c z.1 = some z.2 := fun z hz => by
  unfold addc
  rw [lookup_of_mem h.nd hz]
theorem Hold.absorb {c t : List Cell} (h : Hold G (c ++ t) H) : Hold (addc G t) c H := by
  refine ⟨fun p o e => ?_, h.left.at_, fun z hz => ?_, h.left.nd⟩
  · unfold addc at e
    cases q : t.lookup p with
    | none => rw [q] at e; exact h.fz p o e
    | some u =>
      rw [q] at e
      cases e
      exact h.right.at_ _ (lookup_mem q)
  · unfold addc
    cases q : t.lookup z.1 with
    | none => exact h.left.no z hz
    | some u => exact (h.apart (mem_keys hz) (mem_keys (z := (z.1, u)) (lookup_mem q))).elim
theorem Step.absorb {c c' t : List Cell} (s : Step G c H G' (c' ++ t) H') (h : Hold G' (c' ++ t) H') : Step G c H (addc G' t) c' H' := by
  refine ⟨s.fz.trans (addc_sub h.right), s.kp, fun p hp => s.nw p ?_⟩
  rcases hp with hp | hp
  · unfold addc at hp
    cases q : t.lookup p with
    | none => rw [q] at hp; exact .inl hp
    | some u => exact .inr (by rw [keys_append]; exact List.mem_append_right _ (mem_keys (lookup_mem q)))
  · exact .inr (by rw [keys_append]; exact List.mem_append_left _ hp)
theorem Rep.absorb {c t : List Cell} {p : PV} {v : V} (h : Hold G (c ++ t) H) (r : Rep ad K G p v t) : Rep ad K (addc G t) p.frz v [] := r.frz (addc_sub h.right) (addc_at h.right)

/-! ### a new object -/
theorem Hold.newF {c : List Cell} (h : Hold G c H) {p : Addr} (hp : H p = none) (o : HO) : Hold (upd G p o) c (upd H p o) ∧ Step G c H (upd G p o) c (upd H p o) := by
  have gp : G p = none := by
    cases q : G p with
    | none => rfl
    | some u => rw [h.fz p u q] at hp; cases hp
  have sub : Sub G (upd G p o) := fun a u e => by rw [upd_ne (ne_of_none e gp)]; exact e
  refine ⟨⟨fun a u e => ?_, fun z hz => ?_, fun z hz => ?_, h.nd⟩, ⟨sub, fun a u e _ => by rw [upd_ne (ne_of_none e hp)]; exact e, fun a ha => ?_⟩⟩
  · by_cases q : a = p
    · subst q; rw [upd_same] at e ⊢; exact e
    · rw [upd_ne q] at e ⊢; exact h.fz a u e
  · rw [upd_ne (ne_of_none (h.at_ z hz) hp)]; exact h.at_ z hz
  · rw [upd_ne (ne_of_none (h.at_ z hz) hp)]; exact h.no z hz
  · rcases ha with ha | ha
    · by_cases q : a = p
      · subst q; exact .inr (.inr hp)
      · rw [upd_ne q] at ha; exact .inl ha
    · exact .inr (.inl ha)
theorem Hold.newO {c : List Cell} (h : Hold G c H) {p : Addr} (hp : H p = none) (o : HO) : Hold G (c ++ [(p, o)]) (upd H p o) ∧ Step G c H G (c ++ [(p, o)]) (upd H p o) := by
  have gp : G p = none := by
    cases q : G p with
    | none => rfl
    | some u => rw [h.fz p u q] at hp; cases hp
  refine ⟨⟨fun a u e => by rw [upd_ne (ne_of_none e gp)]; exact h.fz a u e, fun z hz => ?_, fun z hz => ?_, ?_⟩, ⟨Sub.refl G, fun a u e _ => by rw [upd_ne (ne_of_none e hp)]; exact e, fun a ha => ?_⟩⟩
  · rcases List.mem_append.mp hz with hz | hz
    · rw [upd_ne (ne_of_none (h.at_ z hz) hp)]; exact h.at_ z hz
    · have e : z = (p, o) := by simpa using hz
      rw [e]; exact upd_same
  · rcases List.mem_append.mp hz with hz | hz
    · exact h.no z hz
    · have e : z = (p, o) := by simpa using hz
      rw [e]; exact gp
  · rw [keys_append]
    refine List.nodup_append.mpr ⟨h.nd, by simp [keys], fun a ha b hb e => ?_⟩
    subst e
    have e2 : a = p := by simpa [keys] using hb
    subst e2
    obtain ⟨_, u, e3, _⟩ := h.key ha
    rw [hp] at e3; cases e3
  · rcases ha with ha | ha
    · exact .inl ha
    · rw [keys_append] at ha
      rcases List.mem_append.mp ha with ha | ha
      · exact .inr (.inl ha)
      · have e2 : a = p := by simpa [keys] using ha
        subst e2
        exact .inr (.inr hp)
/-- a held cell is rewritten -/
theorem Hold.write {c : List Cell} {p : Addr} {o : HO} (h : Hold G ((p, o) :: c) H) (u : HO) : Hold G ((p, u) :: c) (upd H p u) ∧ Step G ((p, o) :: c) H G ((p, u) :: c) (upd H p u) := by
  have gp : G p = none := h.no (p, o) List.mem_cons_self
  have nd := List.nodup_cons.mp (show (p :: keys c).Nodup from h.nd)
  refine ⟨⟨fun a w e => by rw [upd_ne (ne_of_none e gp)]; exact h.fz a w e, fun z hz => ?_, fun z hz => ?_, h.nd⟩, ⟨Sub.refl G, fun a w e n => by
    rw [upd_ne fun q => n (by rw [q]; exact List.mem_cons_self)]; exact e, fun a ha => ha.elim .inl fun z => .inr (.inl z)⟩⟩
  · rcases List.mem_cons.mp hz with hz | hz
    · rw [hz]; exact upd_same
    · rw [upd_ne fun q => nd.1 (by rw [← q]; exact mem_keys hz)]; exact h.at_ z (List.mem_cons_of_mem _ hz)
  · rcases List.mem_cons.mp hz with hz | hz
    · rw [hz]; exact gp
    · exact h.no z (List.mem_cons_of_mem _ hz)
end Y
end
section
set_option Elab.async false
set_option linter.all false
set_option maxRecDepth 100000
set_option maxHeartbeats 4000000
set_option autoImplicit false
/-! Y2e: == and != of data without dicts (the texts may hold any signs). -/
namespace Y
open PySem PySem.SeqAt
mutual
def nod : PyData → Bool
  | .dict _ => false
  | .list ds => nodL ds
  | .tuple ds => nodL ds
  | _ => true
def nodL : List PyData → Bool
  | [] => true
  | d :: ds => nod d && nodL ds
end
mutual
theorem dat_nod : ∀ {p : PV} {d : PyData}, p.dat = some d → nod d = true
  | .non, _, e => by cases e; rfl
  | .bl b, _, e => by cases e; rfl
  | .int b, _, e => by cases e; rfl
  | .str b, _, e => by cases e; rfl
  | .ty b, _, e => by cases e
  | .fn b, _, e => by cases e
  | .lst o xs, _, e => by
    simp only [PV.dat] at e
    obtain ⟨ds, e1, e2⟩ := Option.map_eq_some_iff.mp e
    subst e2
    exact datL_nod e1
  | .lck xs, _, e => by
    simp only [PV.dat] at e
    obtain ⟨ds, e1, e2⟩ := Option.map_eq_some_iff.mp e
    subst e2
    exact datL_nod e1
  | .tup xs, _, e => by
    simp only [PV.dat] at e
    obtain ⟨ds, e1, e2⟩ := Option.map_eq_some_iff.mp e
    subst e2
    exact datL_nod e1
theorem datL_nod : ∀ {ps : List PV} {ds : List PyData}, PV.datL ps = some ds → nodL ds = true
  | [], _, e => by cases e; rfl
  | p :: ps, _, e => by
    simp only [PV.datL] at e
    split at e
    · rename_i d ds e1 e2
      cases e
      simp only [nodL, dat_nod e1, datL_nod e2, Bool.and_self]
    · cases e
end
section
variable {h : Heap}
mutual
/-- a value reads as one datum only -/
theorem one_dat : ∀ {d e : PyData} {v : Value} {as bs : List Addr}, nod d = true → Reads h v d as → Reads h v e bs → d = e
  | .none, _, _, _, _, _, r, q => by cases r; cases q; rfl
  | .bool _, _, _, _, _, _, r, q => by cases r; cases q; rfl
  | .int _, _, _, _, _, _, r, q => by cases r; cases q; rfl
  | .str _, _, _, _, _, _, r, q => by cases r; cases q; rfl
  | .dict _, _, _, _, _, z, _, _ => by cases z
  | .list ds, _, _, _, _, z, .list a1 a2 a3 a4, q => by
    cases q with
    | list b1 b2 b3 b4 =>
      have e1 := Option.some.inj (a1.symm.trans b1)
      subst e1
      have e3 := a3.symm.trans b3
      cases e3
      exact congrArg _ (all_dat z a4 b4)
    | tuple b1 b2 b3 b4 =>
      have e1 := Option.some.inj (a1.symm.trans b1)
      subst e1
      exact absurd (a2.symm.trans b2) (by simp)
    | dict b1 b2 b3 b4 b5 =>
      have e1 := Option.some.inj (a1.symm.trans b1)
      subst e1
      exact absurd (a2.symm.trans b2) (by simp)
  | .tuple ds, _, _, _, _, z, .tuple a1 a2 a3 a4, q => by
    cases q with
    | tuple b1 b2 b3 b4 =>
      have e1 := Option.some.inj (a1.symm.trans b1)
      subst e1
      have e3 := a3.symm.trans b3
      cases e3
      exact congrArg _ (all_dat z a4 b4)
    | list b1 b2 b3 b4 =>
      have e1 := Option.some.inj (a1.symm.trans b1)
      subst e1
      exact absurd (a2.symm.trans b2) (by simp)
    | dict b1 b2 b3 b4 b5 =>
      have e1 := Option.some.inj (a1.symm.trans b1)
      subst e1
      exact absurd (a2.symm.trans b2) (by simp)
theorem all_dat : ∀ {ds es : List PyData} {vs : List Value} {as bs : List Addr}, nodL ds = true → ReadsAll h vs ds as → ReadsAll h vs es bs → ds = es
  | [], _, _, _, _, _, r, q => by cases r; cases q; rfl
  | d :: ds, _, _, _, _, z, .cons r rs, .cons q qs => by
    simp only [nodL, Bool.and_eq_true] at z
    rw [one_dat z.1 r q, all_dat z.2 rs qs]
end
end
mutual
theorem eqv_one : ∀ {d : PyData}, nod d = true → PyData.eqv d d = true
  | .none, _ => rfl
  | .bool b, _ => by simp [PyData.eqv]
  | .int i, _ => by simp [PyData.eqv]
  | .str x, _ => by simp [PyData.eqv]
  | .list ds, z => by simp only [PyData.eqv]; exact eqv_all z
  | .tuple ds, z => by simp only [PyData.eqv]; exact eqv_all z
  | .dict _, z => by cases z
theorem eqv_all : ∀ {ds : List PyData}, nodL ds = true → PyData.eqvAll ds ds = true
  | [], _ => rfl
  | d :: ds, z => by
    simp only [nodL, Bool.and_eq_true] at z
    simp only [PyData.eqvAll, eqv_one z.1, eqv_all z.2, Bool.and_self]
end
/-- every pair of kinds but list with list and tuple with tuple -/
theorem eq_far {d e : PyData} {A : Around} {s : Shared} {a b : Value} {as bs : List Addr} (zd : nod d = true) (ze : nod e = true) (r : Reads s.heap a d as) (q : Reads s.heap b e bs) (hu : A.units < cLine)
    (f1 : ∀ xs ys, d = .list xs → e = .list ys → False) (f2 : ∀ xs ys, d = .tuple xs → e = .tuple ys → False) : EqAt A s a b (PyData.eqv d e) ∧ RcAt A s a b (PyData.eqv d e) ∧ RcNeAt A s a b (!PyData.eqv d e) := by
  cases r with
  | none =>
    cases q with
    | none => exact ⟨.same _, .none_none, .none_none⟩
    | bool => exact ⟨.none_bool _, .none_bool _, .none_bool _⟩
    | int => exact ⟨.none_int _ _, .none_int _ _, .none_int _ _⟩
    | str => exact ⟨.none_str _ _, .none_str _ _, .none_str _ _⟩
    | list q1 q2 q3 => exact ⟨.none_list ⟨_, q1, q2, _, q3⟩ hu, .none_list ⟨_, q1, q2, _, q3⟩ hu, .none_list ⟨_, q1, q2, _, q3⟩ hu⟩
    | tuple q1 q2 q3 => exact ⟨.none_tuple ⟨_, q1, q2, _, q3⟩ hu, .none_tuple ⟨_, q1, q2, _, q3⟩ hu, .none_tuple ⟨_, q1, q2, _, q3⟩ hu⟩
    | dict => cases ze
  | bool =>
    cases q with
    | none => exact ⟨.bool_none _, .bool_none _, .bool_none _⟩
    | bool => exact ⟨.bool_bool _ _, .bool_bool _ _, .bool_bool _ _⟩
    | int => exact ⟨.bool_int _ _ _, .bool_int _ _ _, .bool_int _ _ _⟩
    | str => exact ⟨.bool_str _ _ _, .bool_str _ _ _, .bool_str _ _ _⟩
    | list q1 q2 q3 => exact ⟨.bool_list _ ⟨_, q1, q2, _, q3⟩ hu, .bool_list _ ⟨_, q1, q2, _, q3⟩ hu, .bool_list _ ⟨_, q1, q2, _, q3⟩ hu⟩
    | tuple q1 q2 q3 => exact ⟨.bool_tuple _ ⟨_, q1, q2, _, q3⟩ hu, .bool_tuple _ ⟨_, q1, q2, _, q3⟩ hu, .bool_tuple _ ⟨_, q1, q2, _, q3⟩ hu⟩
    | dict => cases ze
  | int =>
    cases q with
    | none => exact ⟨.int_none _ _, .int_none _ _, .int_none _ _⟩
    | bool => exact ⟨.int_bool _ _ _, .int_bool _ _ _, .int_bool _ _ _⟩
    | int => exact ⟨.int_int _ _ _ _, .int_int _ _ _ _, .int_int _ _ _ _⟩
    | str => exact ⟨.int_str _ _ _ _, .int_str _ _ _ _, .int_str _ _ _ _⟩
    | list q1 q2 q3 => exact ⟨.int_list _ _ ⟨_, q1, q2, _, q3⟩ hu, .int_list _ _ ⟨_, q1, q2, _, q3⟩ hu, .int_list _ _ ⟨_, q1, q2, _, q3⟩ hu⟩
    | tuple q1 q2 q3 => exact ⟨.int_tuple _ _ ⟨_, q1, q2, _, q3⟩ hu, .int_tuple _ _ ⟨_, q1, q2, _, q3⟩ hu, .int_tuple _ _ ⟨_, q1, q2, _, q3⟩ hu⟩
    | dict => cases ze
  | str =>
    cases q with
    | none => exact ⟨.str_none _ _, .str_none _ _, .str_none _ _⟩
    | bool => exact ⟨.str_bool _ _ _, .str_bool _ _ _, .str_bool _ _ _⟩
    | int => exact ⟨.str_int _ _ _ _, .str_int _ _ _ _, .str_int _ _ _ _⟩
    | str => exact ⟨.str_str _ _ _ _, .str_str _ _ _ _, .str_str _ _ _ _⟩
    | list q1 q2 q3 => exact ⟨.str_list _ _ ⟨_, q1, q2, _, q3⟩ hu, .str_list _ _ ⟨_, q1, q2, _, q3⟩ hu, .str_list _ _ ⟨_, q1, q2, _, q3⟩ hu⟩
    | tuple q1 q2 q3 => exact ⟨.str_tuple _ _ ⟨_, q1, q2, _, q3⟩ hu, .str_tuple _ _ ⟨_, q1, q2, _, q3⟩ hu, .str_tuple _ _ ⟨_, q1, q2, _, q3⟩ hu⟩
    | dict => cases ze
  | list r1 r2 r3 =>
    cases q with
    | none => exact ⟨.list_none ⟨_, r1, r2, _, r3⟩ hu, .list_none ⟨_, r1, r2, _, r3⟩ hu, .list_none ⟨_, r1, r2, _, r3⟩ hu⟩
    | bool => exact ⟨.list_bool _ ⟨_, r1, r2, _, r3⟩ hu, .list_bool _ ⟨_, r1, r2, _, r3⟩ hu, .list_bool _ ⟨_, r1, r2, _, r3⟩ hu⟩
    | int => exact ⟨.list_int _ _ ⟨_, r1, r2, _, r3⟩ hu, .list_int _ _ ⟨_, r1, r2, _, r3⟩ hu, .list_int _ _ ⟨_, r1, r2, _, r3⟩ hu⟩
    | str => exact ⟨.list_str _ _ ⟨_, r1, r2, _, r3⟩ hu, .list_str _ _ ⟨_, r1, r2, _, r3⟩ hu, .list_str _ _ ⟨_, r1, r2, _, r3⟩ hu⟩
    | list => exact (f1 _ _ rfl rfl).elim
    | tuple q1 q2 q3 => exact ⟨.list_tuple ⟨_, r1, r2, _, r3⟩ ⟨_, q1, q2, _, q3⟩ hu, .list_tuple ⟨_, r1, r2, _, r3⟩ ⟨_, q1, q2, _, q3⟩ hu, .list_tuple ⟨_, r1, r2, _, r3⟩ ⟨_, q1, q2, _, q3⟩ hu⟩
    | dict => cases ze
  | tuple r1 r2 r3 =>
    cases q with
    | none => exact ⟨.tuple_none ⟨_, r1, r2, _, r3⟩ hu, .tuple_none ⟨_, r1, r2, _, r3⟩ hu, .tuple_none ⟨_, r1, r2, _, r3⟩ hu⟩
    | bool => exact ⟨.tuple_bool _ ⟨_, r1, r2, _, r3⟩ hu, .tuple_bool _ ⟨_, r1, r2, _, r3⟩ hu, .tuple_bool _ ⟨_, r1, r2, _, r3⟩ hu⟩
    | int => exact ⟨.tuple_int _ _ ⟨_, r1, r2, _, r3⟩ hu, .tuple_int _ _ ⟨_, r1, r2, _, r3⟩ hu, .tuple_int _ _ ⟨_, r1, r2, _, r3⟩ hu⟩
    | str => exact ⟨.tuple_str _ _ ⟨_, r1, r2, _, r3⟩ hu, .tuple_str _ _ ⟨_, r1, r2, _, r3⟩ hu, .tuple_str _ _ ⟨_, r1, r2, _, r3⟩ hu⟩
    | list q1 q2 q3 => exact ⟨.tuple_list ⟨_, r1, r2, _, r3⟩ ⟨_, q1, q2, _, q3⟩ hu, .tuple_list ⟨_, r1, r2, _, r3⟩ ⟨_, q1, q2, _, q3⟩ hu, .tuple_list ⟨_, r1, r2, _, r3⟩ ⟨_, q1, q2, _, q3⟩ hu⟩
    | tuple => exact (f2 _ _ rfl rfl).elim
    | dict => cases ze
  | dict => cases zd
/-- the items of two sequences, pair by pair -/
def Items (A : Around) (s : Shared) (vs ws : List Value) (ds es : List PyData) : Prop := ∀ j (h1 : j < vs.length) (h2 : j < ws.length), EqAt A s vs[j] ws[j] (pairEq ds es j)
theorem Items.at {A : Around} {s : Shared} {vs ws : Array Value} {ds es : List PyData} (I : Items A s vs.toList ws.toList ds es) (j : Nat) (a : j < vs.size) (b : j < ws.size) : EqAt A s vs[j] ws[j] (pairEq ds es j) := by
  have := I j (by simpa using a) (by simpa using b)
  simpa using this
theorem rc_lists {A : Around} {s : Shared} {l l' : Addr} {o o' : Obj} {vs ws : Array Value} {n n' : Nat} {ds es : List PyData} {as bs : List Addr} (h1 : s.heap.get? l = some o) (h2 : o.cls = .type "list") (h3 : o.data = .seq vs n) (h4 : ReadsAll s.heap vs.toList ds as)
    (k1 : s.heap.get? l' = some o') (k2 : o'.cls = .type "list") (k3 : o'.data = .seq ws n') (k4 : ReadsAll s.heap ws.toList es bs) (hu : A.units < cLine) (I : Items A.in1 s vs.toList ws.toList ds es) :
    RcAt A s (.ref l) (.ref l') (PyData.eqvAll ds es) ∧ RcNeAt A s (.ref l) (.ref l') (!PyData.eqvAll ds es) := by
  have z1 : vs.size = ds.length := by rw [← ReadsAll.length _ _ _ h4]; simp
  have z2 : ws.size = es.length := by rw [← ReadsAll.length _ _ _ k4]; simp
  by_cases hz : vs.size = ws.size
  · have e : PyData.eqvAll ds es = (List.range vs.size).all (pairEq ds es) := by
      rw [z1, eqvAll_same_length (by omega)]
    rw [e]
    exact ⟨.lists ⟨_, h1, h2, _, h3⟩ ⟨_, k1, k2, _, k3⟩ hz hu fun j a b => I.at j a b,
      .lists ⟨_, h1, h2, _, h3⟩ ⟨_, k1, k2, _, k3⟩ hz hu fun j a b => I.at j a b⟩
  · have e : PyData.eqvAll ds es = false := eqvAll_other_length (by omega)
    rw [e]
    exact ⟨.lists_lengths ⟨_, h1, h2, _, h3⟩ ⟨_, k1, k2, _, k3⟩ (by simpa using hz) hu, .lists_lengths ⟨_, h1, h2, _, h3⟩ ⟨_, k1, k2, _, k3⟩ (by simpa using hz) hu⟩
theorem rc_tuples {A : Around} {s : Shared} {l l' : Addr} {o o' : Obj} {vs ws : Array Value} {n n' : Nat} {ds es : List PyData} {as bs : List Addr} (h1 : s.heap.get? l = some o) (h2 : o.cls = .type "tuple") (h3 : o.data = .seq vs n) (h4 : ReadsAll s.heap vs.toList ds as)
    (k1 : s.heap.get? l' = some o') (k2 : o'.cls = .type "tuple") (k3 : o'.data = .seq ws n') (k4 : ReadsAll s.heap ws.toList es bs) (hu : A.units < cLine) (I : Items A.in1 s vs.toList ws.toList ds es) :
    RcAt A s (.ref l) (.ref l') (PyData.eqvAll ds es) ∧ RcNeAt A s (.ref l) (.ref l') (!PyData.eqvAll ds es) := by
  have z1 : vs.size = ds.length := by rw [← ReadsAll.length _ _ _ h4]; simp
  have z2 : ws.size = es.length := by rw [← ReadsAll.length _ _ _ k4]; simp
  have e : PyData.eqvAll ds es = ((List.range (min vs.size ws.size)).all (pairEq ds es) && vs.size == ws.size) := by
    rw [z1, z2]
    exact (eqvAll_eq ds es).symm
  rw [e]
  exact ⟨.tuples ⟨_, h1, h2, _, h3⟩ ⟨_, k1, k2, _, k3⟩ hu fun j a b => I.at j a b,
    .tuples ⟨_, h1, h2, _, h3⟩ ⟨_, k1, k2, _, k3⟩ hu fun j a b => I.at j a b⟩
mutual
theorem eq_any : ∀ {d e : PyData} {A : Around} {s : Shared} {a b : Value} {as bs : List Addr}, nod d = true → nod e = true → Reads s.heap a d as → Reads s.heap b e bs → A.units + d.depth < cLine → EqAt A s a b (PyData.eqv d e)
  | .list ds, .list es, A, s, .ref l, .ref l', _, _, zd, ze, .list h1 h2 h3 h4, .list k1 k2 k3 k4, hu => by
    simp only [PyData.depth] at hu
    by_cases e : l = l'
    · subst e
      have := one_dat zd (.list h1 h2 h3 h4) (.list k1 k2 k3 k4)
      rw [← this, eqv_one zd]
      exact .same _
    · simp only [PyData.eqv]
      exact .of_refs e (rc_lists h1 h2 h3 h4 k1 k2 k3 k4 (by omega) (eq_items zd ze h4 k4 (by show A.units + 1 + _ < _; omega))).1
  | .tuple ds, .tuple es, A, s, .ref l, .ref l', _, _, zd, ze, .tuple h1 h2 h3 h4, .tuple k1 k2 k3 k4, hu => by
    simp only [PyData.depth] at hu
    by_cases e : l = l'
    · subst e
      have := one_dat zd (.tuple h1 h2 h3 h4) (.tuple k1 k2 k3 k4)
      rw [← this, eqv_one zd]
      exact .same _
    · simp only [PyData.eqv]
      exact .of_refs e (rc_tuples h1 h2 h3 h4 k1 k2 k3 k4 (by omega) (eq_items zd ze h4 k4 (by show A.units + 1 + _ < _; omega))).1
  | .none, e, A, s, a, b, _, _, zd, ze, r, q, hu => (eq_far zd ze r q (by omega) (fun _ _ z => by cases z) fun _ _ z => by cases z).1
  | .bool _, e, A, s, a, b, _, _, zd, ze, r, q, hu => (eq_far zd ze r q (by omega) (fun _ _ z => by cases z) fun _ _ z => by cases z).1
  | .int _, e, A, s, a, b, _, _, zd, ze, r, q, hu => (eq_far zd ze r q (by omega) (fun _ _ z => by cases z) fun _ _ z => by cases z).1
  | .str _, e, A, s, a, b, _, _, zd, ze, r, q, hu => (eq_far zd ze r q (by omega) (fun _ _ z => by cases z) fun _ _ z => by cases z).1
  | .dict _, e, A, s, a, b, _, _, zd, ze, r, q, hu => by cases zd
  | .list _, .none, A, s, a, b, _, _, zd, ze, r, q, hu => (eq_far zd ze r q (by omega) (fun _ _ _ z => by cases z) fun _ _ z => by cases z).1
  | .list _, .bool _, A, s, a, b, _, _, zd, ze, r, q, hu => (eq_far zd ze r q (by omega) (fun _ _ _ z => by cases z) fun _ _ z => by cases z).1
  | .list _, .int _, A, s, a, b, _, _, zd, ze, r, q, hu => (eq_far zd ze r q (by omega) (fun _ _ _ z => by cases z) fun _ _ z => by cases z).1
  | .list _, .str _, A, s, a, b, _, _, zd, ze, r, q, hu => (eq_far zd ze r q (by omega) (fun _ _ _ z => by cases z) fun _ _ z => by cases z).1
  | .list _, .tuple _, A, s, a, b, _, _, zd, ze, r, q, hu => (eq_far zd ze r q (by omega) (fun _ _ _ z => by cases z) fun _ _ z => by cases z).1
  | .list _, .dict _, A, s, a, b, _, _, zd, ze, r, q, hu => by cases ze
  | .tuple _, .none, A, s, a, b, _, _, zd, ze, r, q, hu => (eq_far zd ze r q (by omega) (fun _ _ z => by cases z) fun _ _ _ z => by cases z).1
  | .tuple _, .bool _, A, s, a, b, _, _, zd, ze, r, q, hu => (eq_far zd ze r q (by omega) (fun _ _ z => by cases z) fun _ _ _ z => by cases z).1
  | .tuple _, .int _, A, s, a, b, _, _, zd, ze, r, q, hu => (eq_far zd ze r q (by omega) (fun _ _ z => by cases z) fun _ _ _ z => by cases z).1
  | .tuple _, .str _, A, s, a, b, _, _, zd, ze, r, q, hu => (eq_far zd ze r q (by omega) (fun _ _ z => by cases z) fun _ _ _ z => by cases z).1
  | .tuple _, .list _, A, s, a, b, _, _, zd, ze, r, q, hu => (eq_far zd ze r q (by omega) (fun _ _ z => by cases z) fun _ _ _ z => by cases z).1
  | .tuple _, .dict _, A, s, a, b, _, _, zd, ze, r, q, hu => by cases ze
theorem eq_items : ∀ {ds es : List PyData} {A : Around} {s : Shared} {vs ws : List Value} {as bs : List Addr}, nodL ds = true → nodL es = true → ReadsAll s.heap vs ds as → ReadsAll s.heap ws es bs → A.units + PyData.depthAll ds < cLine → Items A s vs ws ds es
  | [], _, A, s, _, _, _, _, _, _, .nil, _, _ => fun j h1 _ => absurd h1 (Nat.not_lt_zero _)
  | _ :: _, [], A, s, _, _, _, _, _, _, _, .nil, _ => fun j _ h2 => absurd h2 (Nat.not_lt_zero _)
  | d :: ds, e :: es, A, s, _, _, _, _, zd, ze, .cons r rs, .cons q qs, hu => fun j h1 h2 => by
    simp only [nodL, Bool.and_eq_true] at zd ze
    simp only [PyData.depthAll] at hu
    have m1 := Nat.le_max_left d.depth (PyData.depthAll ds)
    have m2 := Nat.le_max_right d.depth (PyData.depthAll ds)
    have u1 : A.units + d.depth < cLine := by omega
    have u2 : A.units + PyData.depthAll ds < cLine := by omega
    cases j with
    | zero => exact eq_any zd.1 ze.1 r q u1
    | succ j => exact eq_items zd.2 ze.2 rs qs u2 j (Nat.lt_of_succ_lt_succ h1) (Nat.lt_of_succ_lt_succ h2)
end
theorem cmp_any {d e : PyData} {A : Around} {s : Shared} {a b : Value} {as bs : List Addr} (zd : nod d = true) (ze : nod e = true) (r : Reads s.heap a d as) (q : Reads s.heap b e bs) (hu : A.units + d.depth < cLine) :
    RcAt A s a b (PyData.eqv d e) ∧ RcNeAt A s a b (!PyData.eqv d e) := by
  by_cases f1 : ∃ xs ys, d = .list xs ∧ e = .list ys
  · obtain ⟨xs, ys, rfl, rfl⟩ := f1
    cases r with
    | list h1 h2 h3 h4 =>
      cases q with
      | list k1 k2 k3 k4 =>
        simp only [PyData.depth] at hu
        simp only [PyData.eqv]
        exact rc_lists h1 h2 h3 h4 k1 k2 k3 k4 (by omega) (eq_items zd ze h4 k4 (by show A.units + 1 + _ < _; omega))
  · by_cases f2 : ∃ xs ys, d = .tuple xs ∧ e = .tuple ys
    · obtain ⟨xs, ys, rfl, rfl⟩ := f2
      cases r with
      | tuple h1 h2 h3 h4 =>
        cases q with
        | tuple k1 k2 k3 k4 =>
          simp only [PyData.depth] at hu
          simp only [PyData.eqv]
          exact rc_tuples h1 h2 h3 h4 k1 k2 k3 k4 (by omega) (eq_items zd ze h4 k4 (by show A.units + 1 + _ < _; omega))
    · exact (eq_far zd ze r q (by omega) (fun xs ys a b => f1 ⟨xs, ys, a, b⟩) fun xs ys a b => f2 ⟨xs, ys, a, b⟩).2
end Y
end
section
set_option Elab.async false
set_option linter.all false
set_option maxRecDepth 100000
set_option maxHeartbeats 1000000
set_option autoImplicit false
/-! Y2i: in, not in, index over data of any kind without dicts. -/
namespace Y
open PySem PySem.Spec PyProof.Rows L2 PySem.SeqAt
section
variable {P : Program} {w : World} {A : Around} {E : Value → Shared → Prop} {s : Shared}
/-- does the value hold data that equals d -/
noncomputable def hitV (h : Heap) (d : PyData) (y : Value) : Bool := @decide (∃ dy as, nod dy = true ∧ Reads h y dy as ∧ PyData.eqv dy d = true) (Classical.propDecidable _)
theorem hitV_eq {h : Heap} {d dy : PyData} {y : Value} {as : List Addr} (n : nod dy = true) (r : Reads h y dy as) : hitV h d y = PyData.eqv dy d := by
  unfold hitV
  cases e : PyData.eqv dy d with
  | true => exact @decide_eq_true _ (Classical.propDecidable _) ⟨dy, as, n, r, e⟩
  | false =>
    refine @decide_eq_false _ (Classical.propDecidable _) ?_
    rintro ⟨dz, bs, n2, r2, e2⟩
    rw [one_dat n r r2, e2] at e
    cases e
theorem hit_items {d : PyData} {x : Value} {bs : List Addr} (nd : nod d = true) (rx : Reads s.heap x d bs) {m : Nat} (hu : A.units + 1 + m < cLine) : ∀ {ds : List PyData} {vs : List Value} {as : List Addr}, nodL ds = true → ReadsAll s.heap vs ds as → PyData.depthAll ds ≤ m →
    (∀ y, y ∈ vs → EqAt A.in1 s y x (hitV s.heap d y)) ∧ vs.any (hitV s.heap d) = ds.any fun z => PyData.eqv z d
  | [], _, _, _, .nil, _ => ⟨fun y hy => (by cases hy), rfl⟩
  | z :: ds, _, _, hn, .cons (v := v) (vs := vs) r t, hm => by
    simp only [nodL, Bool.and_eq_true] at hn
    simp only [PyData.depthAll] at hm
    obtain ⟨i1, i2⟩ := hit_items nd rx hu hn.2 t (by omega)
    have e := hitV_eq (d := d) hn.1 r
    refine ⟨fun y hy => ?_, by rw [List.any_cons, List.any_cons, i2, e]⟩
    rcases List.mem_cons.mp hy with rfl | hy
    · rw [e]
      exact eq_any hn.1 nd r rx (by show A.units + 1 + z.depth < cLine; omega)
    · exact i1 y hy
end
section
variable {X : Cx}
def rInA (K : PySem.W.Frag) (ng : Bool) : R2 := fun x y H Q => ∃ d ds, Dp K H x d ∧ (Dp K H y (.list ds) ∨ Dp K H y (.tuple ds)) ∧ nod d = true ∧ nodL ds = true ∧ PyData.depthAll ds ≤ 60 ∧ Q (.bl (if ng then !(ds.any fun z => PyData.eqv z d) else ds.any fun z => PyData.eqv z d)) H
theorem op_inA (hu : X.A.units + 65 < cLine) : OpR X (compareOp .In) (rInA X.K false) := by
  intro pins s σ H x y v u Q I rx ry h
  obtain ⟨d, ds, hd, he, nd, nl, hz, q⟩ := h
  obtain ⟨as, r1⟩ := Dp.reads I d x v hd rx
  rcases he with he | he
  · obtain ⟨bs, r2⟩ := Dp.reads I (.list ds) y u he ry
    cases r2 with
    | list h1 h2 h3 h4 =>
      obtain ⟨i1, i2⟩ := hit_items (A := X.A) nd r1 (m := 60) (by omega) nl h4 hz
      exact in_listAt _ ⟨_, h1, h2, _, h3⟩ (fun y hy => i1 y (by simpa using hy)) ⟨.bl _, H, I, by rw [← i2]; exact congrArg Value.bool (by simp), q⟩
  · obtain ⟨bs, r2⟩ := Dp.reads I (.tuple ds) y u he ry
    cases r2 with
    | tuple h1 h2 h3 h4 =>
      obtain ⟨i1, i2⟩ := hit_items (A := X.A) nd r1 (m := 60) (by omega) nl h4 hz
      exact in_tupleAt _ ⟨_, h1, h2, _, h3⟩ (fun y hy => i1 y (by simpa using hy)) ⟨.bl _, H, I, by rw [← i2]; exact congrArg Value.bool (by simp), q⟩
theorem op_notInA (hu : X.A.units + 65 < cLine) : OpR X (compareOp .NotIn) (rInA X.K true) := by
  intro pins s σ H x y v u Q I rx ry h
  obtain ⟨d, ds, hd, he, nd, nl, hz, q⟩ := h
  obtain ⟨as, r1⟩ := Dp.reads I d x v hd rx
  rcases he with he | he
  · obtain ⟨bs, r2⟩ := Dp.reads I (.list ds) y u he ry
    cases r2 with
    | list h1 h2 h3 h4 =>
      obtain ⟨i1, i2⟩ := hit_items (A := X.A) nd r1 (m := 60) (by omega) nl h4 hz
      exact notIn_listAt _ ⟨_, h1, h2, _, h3⟩ (fun y hy => i1 y (by simpa using hy)) ⟨.bl _, H, I, by rw [if_pos rfl, ← i2]; exact congrArg Value.bool (by simp), q⟩
  · obtain ⟨bs, r2⟩ := Dp.reads I (.tuple ds) y u he ry
    cases r2 with
    | tuple h1 h2 h3 h4 =>
      obtain ⟨i1, i2⟩ := hit_items (A := X.A) nd r1 (m := 60) (by omega) nl h4 hz
      exact notIn_tupleAt _ ⟨_, h1, h2, _, h3⟩ (fun y hy => i1 y (by simpa using hy)) ⟨.bl _, H, I, by rw [if_pos rfl, ← i2]; exact congrArg Value.bool (by simp), q⟩
end
end Y
end
section
set_option Elab.async false
set_option linter.all false
set_option maxRecDepth 100000
set_option maxHeartbeats 2000000
/-! Y3: what an operation reads (views), and that each operation of the language is the model's. -/
namespace Y
open PySem L2
variable {ad : Ad} {K : PySem.W.Frag} {G G' G1 G2 H H' H1 H2 : Hp}

/-- p is to be read at v -/
def Vw (ad : Ad) (K : PySem.W.Frag) (G : Hp) (c : List Cell) (p : PV) (v : V) : Prop := ∃ d, Rep ad K G p v d ∧ ∀ z ∈ d, z ∈ c
inductive VwL (ad : Ad) (K : PySem.W.Frag) (G : Hp) (c : List Cell) : List PV → List V → Prop
  | nil : VwL ad K G c [] []
  | cons {p : PV} {ps : List PV} {v : V} {vs : List V} : Vw ad K G c p v → VwL ad K G c ps vs → VwL ad K G c (p :: ps) (v :: vs)
theorem Rep.vw {c : List Cell} {p : PV} {v : V} (r : Rep ad K G p v []) : Vw ad K G c p v := ⟨[], r, fun _ h => nomatch h⟩
theorem VwL.one {c : List Cell} {p : PV} {vs : List V} (h : VwL ad K G c [p] vs) : ∃ v, vs = [v] ∧ Vw ad K G c p v := by
  cases h with
  | cons a t => cases t; exact ⟨_, rfl, a⟩
theorem VwL.two {c : List Cell} {p q : PV} {vs : List V} (h : VwL ad K G c [p, q] vs) : ∃ v w, vs = [v, w] ∧ Vw ad K G c p v ∧ Vw ad K G c q w := by
  cases h with
  | cons a t =>
    obtain ⟨w, rfl, b⟩ := t.one
    exact ⟨_, _, rfl, a, b⟩
theorem VwL.length {c : List Cell} : ∀ {ps : List PV} {vs : List V}, VwL ad K G c ps vs → ps.length = vs.length
  | _, _, .nil => rfl
  | _, _, .cons _ t => by simp [VwL.length t]
section
variable {c : List Cell} {v : V}
theorem Vw.int {i : Int} (h : Vw ad K G c (.int i) v) : v = .int i := by obtain ⟨d, r, _⟩ := h; cases r; rfl
theorem Vw.str {x : Str} (h : Vw ad K G c (.str x) v) : v = .str x := by obtain ⟨d, r, _⟩ := h; cases r; rfl
theorem Vw.bl {b : Bool} (h : Vw ad K G c (.bl b) v) : v = .bl b := by obtain ⟨d, r, _⟩ := h; cases r; rfl
theorem Vw.non (h : Vw ad K G c .non v) : v = .non := by obtain ⟨d, r, _⟩ := h; cases r; rfl
theorem Vw.ty {n : String} (h : Vw ad K G c (.ty n) v) : v = .ty n := by obtain ⟨d, r, _⟩ := h; cases r; rfl
theorem Vw.lst {o : Bool} {xs : List PV} (h : Vw ad K G c (.lst o xs) v) (hh : Hold G c H) : ∃ a vs d, v = .ref a ∧ H a = some (.lst vs) ∧ RepL ad K G xs vs d ∧ ∀ z ∈ d, z ∈ c := by
  obtain ⟨d, r, k⟩ := h
  cases r with
  | lstF e r => exact ⟨_, _, _, rfl, hh.fz _ _ e, r, k⟩
  | lstO r => exact ⟨_, _, _, rfl, hh.at_ _ (k _ List.mem_cons_self), r, fun z hz => k z (List.mem_cons_of_mem _ hz)⟩
theorem Vw.lck {xs : List PV} (h : Vw ad K G c (.lck xs) v) (hh : Hold G c H) : ∃ a vs, v = .ref a ∧ SqL K H a vs ∧ RepL ad K G xs vs [] := by
  obtain ⟨d, r, k⟩ := h
  cases r with
  | lck e r => exact ⟨_, _, rfl, hh.fz.sql e, r⟩
theorem Vw.tup {xs : List PV} (h : Vw ad K G c (.tup xs) v) (hh : Hold G c H) : ∃ a vs d, v = .ref a ∧ H a = some (.tup vs) ∧ RepL ad K G xs vs d ∧ ∀ z ∈ d, z ∈ c := by
  obtain ⟨d, r, k⟩ := h
  cases r with
  | tup e r => exact ⟨_, _, _, rfl, hh.fz _ _ e, r, k⟩
theorem Vw.seq {p : PV} {xs : List PV} (h : Vw ad K G c p v) (hh : Hold G c H) (e : seqOf p = some xs) : ∃ a vs d, v = .ref a ∧ (SqL K H a vs ∨ SqT K H a vs) ∧ RepL ad K G xs vs d ∧ ∀ z ∈ d, z ∈ c := by
  cases p with
  | lst o ys =>
    obtain rfl : ys = xs := Option.some.inj e
    obtain ⟨a, vs, d, e1, e2, r, k⟩ := h.lst hh
    exact ⟨a, vs, d, e1, .inl (.of e2), r, k⟩
  | lck ys =>
    obtain rfl : ys = xs := Option.some.inj e
    obtain ⟨a, vs, e1, e2, r⟩ := h.lck hh
    exact ⟨a, vs, [], e1, .inl e2, r, fun _ z => nomatch z⟩
  | tup ys =>
    obtain rfl : ys = xs := Option.some.inj e
    obtain ⟨a, vs, d, e1, e2, r, k⟩ := h.tup hh
    exact ⟨a, vs, d, e1, .inr (.of e2), r, k⟩
  | _ => cases e
end
theorem RepL.fz0 {xs : List PV} {vs : List V} {d : List Cell} (r : RepL ad K G xs vs d) (h : PV.fzL xs = true) : RepL ad K G xs vs [] := by
  have e := r.nocell h
  subst e
  exact r
theorem intsP_map : ∀ {xs : List PV} {ns : List Int}, intsP xs = some ns → xs = ns.map .int
  | [], ns, h => by cases h; rfl
  | .int i :: r, ns, h => by
    unfold intsP at h
    cases q : intsP r with
    | none => rw [q] at h; cases h
    | some ms => rw [q] at h; cases h; rw [intsP_map q]; rfl
  | .non :: r, ns, h => by cases h
  | .bl _ :: r, ns, h => by cases h
  | .str _ :: r, ns, h => by cases h
  | .ty _ :: r, ns, h => by cases h
  | .fn _ :: r, ns, h => by cases h
  | .lst _ _ :: r, ns, h => by cases h
  | .lck _ :: r, ns, h => by cases h
  | .tup _ :: r, ns, h => by cases h
theorem strsP_map : ∀ {xs : List PV} {ns : List Str}, strsP xs = some ns → xs = ns.map .str
  | [], ns, h => by cases h; rfl
  | .str i :: r, ns, h => by
    unfold strsP at h
    cases q : strsP r with
    | none => rw [q] at h; cases h
    | some ms => rw [q] at h; cases h; rw [strsP_map q]; rfl
  | .non :: r, ns, h => by cases h
  | .bl _ :: r, ns, h => by cases h
  | .int _ :: r, ns, h => by cases h
  | .ty _ :: r, ns, h => by cases h
  | .fn _ :: r, ns, h => by cases h
  | .lst _ _ :: r, ns, h => by cases h
  | .lck _ :: r, ns, h => by cases h
  | .tup _ :: r, ns, h => by cases h
theorem boolsP_map : ∀ {xs : List PV} {ns : List Bool}, boolsP xs = some ns → xs = ns.map .bl
  | [], ns, h => by cases h; rfl
  | .bl i :: r, ns, h => by
    unfold boolsP at h
    cases q : boolsP r with
    | none => rw [q] at h; cases h
    | some ms => rw [q] at h; cases h; rw [boolsP_map q]; rfl
  | .non :: r, ns, h => by cases h
  | .str _ :: r, ns, h => by cases h
  | .int _ :: r, ns, h => by cases h
  | .ty _ :: r, ns, h => by cases h
  | .fn _ :: r, ns, h => by cases h
  | .lst _ _ :: r, ns, h => by cases h
  | .lck _ :: r, ns, h => by cases h
  | .tup _ :: r, ns, h => by cases h
theorem RepL.ints : ∀ {ns : List Int} {vs : List V} {d : List Cell}, RepL ad K G (ns.map .int) vs d → vs = ns.map .int
  | [], _, _, h => (h.nil').1
  | n :: ns, _, _, h => by
    cases h with
    | cons r t => cases r; rw [RepL.ints t]; rfl
theorem RepL.strs : ∀ {ns : List Str} {vs : List V} {d : List Cell}, RepL ad K G (ns.map .str) vs d → vs = ns.map .str
  | [], _, _, h => (h.nil').1
  | n :: ns, _, _, h => by
    cases h with
    | cons r t => cases r; rw [RepL.strs t]; rfl
theorem RepL.bls : ∀ {ns : List Bool} {vs : List V} {d : List Cell}, RepL ad K G (ns.map .bl) vs d → vs = ns.map .bl
  | [], _, _, h => (h.nil').1
  | n :: ns, _, _, h => by
    cases h with
    | cons r t => cases r; rw [RepL.bls t]; rfl
theorem repL_ints (ns : List Int) : RepL ad K G (ns.map .int) (ns.map .int) [] := by
  induction ns with
  | nil => exact .nil
  | cons n ns ih => exact .cons0 (.int n) ih
theorem repL_strs (ns : List Str) : RepL ad K G (ns.map .str) (ns.map .str) [] := by
  induction ns with
  | nil => exact .nil
  | cons n ns ih => exact .cons0 (.str n) ih
mutual
theorem Rep.dp (s : Sub G H) {c : List Cell} (hc : ∀ z ∈ c, H z.1 = some z.2) : ∀ {p : PV} {v : V} {d : List Cell} {x : PyData}, Rep ad K G p v d → (∀ z ∈ d, z ∈ c) → p.dat = some x → Dp K H v x
  | _, _, _, x, .non, _, e => by cases e; exact .non
  | _, _, _, x, .bl b, _, e => by cases e; exact .bl b
  | _, _, _, x, .int i, _, e => by cases e; exact .int i
  | _, _, _, x, .str i, _, e => by cases e; exact .str i
  | _, _, _, x, .ty _, _, e => by cases e
  | _, _, _, x, .fn _, _, e => by cases e
  | _, _, _, x, .lstF (xs := xs) h r, k, e => by
    simp only [PV.dat] at e
    cases q : PV.datL xs with
    | none => rw [q] at e; cases e
    | some ds => rw [q] at e; cases e; exact .lst (.of (s _ _ h)) (RepL.dp s hc r k q)
  | _, _, _, x, .lstO (xs := xs) r, k, e => by
    simp only [PV.dat] at e
    cases q : PV.datL xs with
    | none => rw [q] at e; cases e
    | some ds => rw [q] at e; cases e; exact .lst (.of (hc _ (k _ List.mem_cons_self))) (RepL.dp s hc r (fun z hz => k z (List.mem_cons_of_mem _ hz)) q)
  | _, _, _, x, .lck (xs := xs) h r, k, e => by
    simp only [PV.dat] at e
    cases q : PV.datL xs with
    | none => rw [q] at e; cases e
    | some ds => rw [q] at e; cases e; exact .lst (s.sql h) (RepL.dp s hc r (fun _ z => nomatch z) q)
  | _, _, _, x, .tup (xs := xs) h r, k, e => by
    simp only [PV.dat] at e
    cases q : PV.datL xs with
    | none => rw [q] at e; cases e
    | some ds => rw [q] at e; cases e; exact .tup (.of (s _ _ h)) (RepL.dp s hc r k q)
theorem RepL.dp (s : Sub G H) {c : List Cell} (hc : ∀ z ∈ c, H z.1 = some z.2) : ∀ {p : List PV} {v : List V} {d : List Cell} {x : List PyData}, RepL ad K G p v d → (∀ z ∈ d, z ∈ c) → PV.datL p = some x → DpAll K H v x
  | _, _, _, x, .nil, _, e => by cases e; exact .nil
  | _, _, _, x, .cons (x := y) (xs := ys) r t, k, e => by
    simp only [PV.datL] at e
    cases q : y.dat with
    | none => rw [q] at e; cases e
    | some d =>
      cases q2 : PV.datL ys with
      | none => rw [q, q2] at e; cases e
      | some ds =>
        rw [q, q2] at e
        cases e
        exact .cons (Rep.dp s hc r (fun z hz => k z (List.mem_append_left _ hz)) q) (RepL.dp s hc t (fun z hz => k z (List.mem_append_right _ hz)) q2)
end
theorem Vw.dp {c : List Cell} {p : PV} {v : V} {x : PyData} (h : Vw ad K G c p v) (hh : Hold G c H) (e : p.dat = some x) : Dp K H v x := by
  obtain ⟨d, r, k⟩ := h
  exact r.dp hh.fz hh.at_ k e

/-- what an operation's reading asks: its arguments are to be read, the language knows the answer, and what follows holds of it -/
def RN (ad : Ad) (K : PySem.W.Frag) (g : List PV → Option PV) : List V → Hp → VK → Prop := fun vs H Q => ∃ ps G c r, VwL ad K G c ps vs ∧ Hold G c H ∧ g ps = some r ∧
  ∀ v H' G' t, Step G c H G' (c ++ t) H' → Hold G' (c ++ t) H' → Rep ad K G' r v t → Q v H'
section
variable {c : List Cell} {Q : VK} {r : PV}
/-- the answer is a value that leaves the heap -/
theorem done0 (hh : Hold G c H) (k : ∀ v H' G' t, Step G c H G' (c ++ t) H' → Hold G' (c ++ t) H' → Rep ad K G' r v t → Q v H') {v : V} (hr : Rep ad K G r v []) : Q v H :=
  k v H G [] (by rw [List.append_nil]; exact Step.refl) (by rw [List.append_nil]; exact hh) hr
/-- .. a new list, held alone -/
theorem doneL (hh : Hold G c H) {xs : List PV} {vs : List V} (hr : RepL ad K G xs vs []) (k : ∀ v H' G' t, Step G c H G' (c ++ t) H' → Hold G' (c ++ t) H' → Rep ad K G' (.lst true xs) v t → Q v H') {p : Addr} (hp : H p = none) :
    Q (.ref p) (upd H p (.lst vs)) := by
  obtain ⟨h1, h2⟩ := hh.newO hp (.lst vs)
  exact k _ _ _ _ h2 h1 (.lstO hr)
/-- .. a new tuple -/
theorem doneT (hh : Hold G c H) {xs : List PV} {vs : List V} (hr : RepL ad K G xs vs []) (k : ∀ v H' G' t, Step G c H G' (c ++ t) H' → Hold G' (c ++ t) H' → Rep ad K G' (.tup xs) v t → Q v H') {p : Addr} (hp : H p = none) :
    Q (.ref p) (upd H p (.tup vs)) := by
  obtain ⟨h1, h2⟩ := hh.newF hp (.tup vs)
  exact k _ _ _ [] (by rw [List.append_nil]; exact h2) (by rw [List.append_nil]; exact h1) (.tup upd_same (hr.mono h2.fz))
end
theorem okS_le {n : Nat} (h : okS n = true) : n ≤ sizeLine := of_decide_eq_true h

section
variable {X : Cx}
theorem rn2 {f : Value → Value → Sem Value} {g : PV → PV → Option PV}
    (h : ∀ (p q r : PV), g p q = some r → ∀ (pins : List (Addr × Obj)) (s : Shared) (σ : St) (G H : Hp) (c : List Cell) (x y : V) (v u : Value) (Q : VK), Inv X pins σ H s → RelV x v → RelV y u → Vw ad X.K G c p x → Vw ad X.K G c q y → Hold G c H →
      (∀ w H' G' t, Step G c H G' (c ++ t) H' → Hold G' (c ++ t) H' → Rep ad X.K G' r w t → Q w H') → wpAny (model X.prog X.w) X.A (f v u) (EP X pins σ Q) X.xe s) {gl : List PV → Option PV} (hg : ∀ p q, gl [p, q] = g p q) :
    OpR X f fun x y H Q => RN ad X.K gl [x, y] H Q := by
  intro pins s σ H x y v u Q I rx ry ⟨ps, G, c, r, hv, hh, e, k⟩
  cases hv with
  | cons a t =>
    cases t with
    | cons b t =>
      cases t
      rw [hg] at e
      exact h _ _ r e pins s σ G H c x y v u Q I rx ry a b hh k
theorem cdat_some {p q : PV} {z : PyData × PyData} (h : cdat p q = some z) : p.dat = some z.1 ∧ q.dat = some z.2 ∧ z.1.depth ≤ 60 := by
  unfold cdat at h
  cases e1 : p.dat with
  | none => rw [e1] at h; cases h
  | some d =>
    cases e2 : q.dat with
    | none => rw [e1, e2] at h; cases h
    | some e =>
      rw [e1, e2] at h
      dsimp only at h
      split at h
      · rename_i hs
        cases h
        exact ⟨rfl, rfl, of_decide_eq_true hs⟩
      · cases h
theorem flatIn_some {p : PV} {xs : List PV} {b : Bool} (h : flatIn p xs = some b) : ∃ d ds, p.dat = some d ∧ PV.datL xs = some ds ∧ b = ds.any fun z => PyData.eqv z d := by
  unfold flatIn at h
  cases e1 : p.dat with
  | none => rw [e1] at h; cases h
  | some d =>
    cases e2 : PV.datL xs with
    | none => rw [e1, e2] at h; cases h
    | some ds =>
      rw [e1, e2] at h
      exact ⟨d, ds, rfl, rfl, (Option.some.inj h).symm⟩
theorem inSeq_some {p : PV} {xs : List PV} {b : Bool} (h : inSeq p xs = some b) : ∃ d ds, p.dat = some d ∧ PV.datL xs = some ds ∧ PyData.depthAll ds ≤ 60 ∧ b = ds.any fun z => PyData.eqv z d := by
  unfold inSeq at h
  cases e1 : p.dat with
  | none => rw [e1] at h; cases h
  | some d =>
    cases e2 : PV.datL xs with
    | none => rw [e1, e2] at h; cases h
    | some ds =>
      rw [e1, e2] at h
      dsimp only at h
      split at h
      · rename_i hs
        exact ⟨d, ds, rfl, rfl, of_decide_eq_true hs, (Option.some.inj h).symm⟩
      · cases h
theorem op_bin (o : Operator) : OpR X (binaryOp o) fun x y H Q => RN ad X.K (opN (.bin o)) [x, y] H Q := by
  refine rn2 (g := binN o) ?_ fun _ _ => rfl
  intro p q r e pins s σ G H c x y v u Q I rx ry vp vq hh k
  unfold binN at e
  split at e
  · -- int + int
    cases e
    obtain rfl := vp.int
    obtain rfl := vq.int
    exact op_add pins s σ H _ _ v u Q I rx ry ⟨_, _, rfl, rfl, done0 hh k (.int _)⟩
  · -- str + str
    split at e
    · rename_i hz
      cases e
      obtain rfl := vp.str
      obtain rfl := vq.str
      exact op_add_str pins s σ H _ _ v u Q I rx ry ⟨_, _, rfl, rfl, okS_le hz, done0 hh k (.str _)⟩
    · cases e
  · -- list + list
    split at e
    · rename_i hz
      cases e
      simp only [Bool.and_eq_true] at hz
      obtain ⟨a, vs, d, rfl, h1, r1, _⟩ := vp.lst hh
      obtain ⟨b, ws, d', rfl, h2, r2, _⟩ := vq.lst hh
      have r1' := r1.fz0 hz.1.2
      have r2' := r2.fz0 hz.2
      refine op_cat pins s σ H _ _ v u Q I rx ry ⟨a, b, vs, ws, rfl, rfl, h1, h2, ?_, fun l hl => doneL hh (r1'.app0 r2') k hl⟩
      rw [← r1.length, ← r2.length]
      exact okS_le hz.1.1
    · cases e
  · -- tuple + tuple
    split at e
    · rename_i hz
      cases e
      simp only [Bool.and_eq_true, Bool.not_eq_true'] at hz
      rename_i xs ys
      obtain ⟨a, vs, d, rfl, h1, r1, _⟩ := vp.tup hh
      obtain ⟨b, ws, d', rfl, h2, r2, k2⟩ := vq.tup hh
      have r1' := r1.fz0 hz.1.2
      have r2' := r2.fz0 hz.2
      have hlen : vs.length + ws.length ≤ sizeLine := by
        rw [← r1.length, ← r2.length]
        exact okS_le hz.1.1
      obtain ⟨e0, re0, _⟩ := vp
      obtain ⟨e1, re1, _⟩ := vq
      refine op_catA pins s σ H _ _ v u Q I rx ry ⟨a, b, vs, ws, rfl, rfl, .of h1, .of h2, hlen, fun z => ?_, fun _ z => ?_, fun _ _ l hl => doneT hh (r1'.app0 r2') k hl⟩
      · subst z
        have : xs = [] := List.eq_nil_of_length_eq_zero (r1.length.trans rfl)
        subst this
        rw [List.nil_append] at k
        refine done0 hh k ?_
        cases re1 with
        | tup g r => exact .tup g (r.fz0 hz.2)
      subst z
      have : ys = [] := List.eq_nil_of_length_eq_zero (r2.length.trans rfl)
      subst this
      rw [List.append_nil] at k
      refine done0 hh k ?_
      cases re0 with
      | tup g r => exact .tup g (r.fz0 hz.1.2)
    · cases e
  · cases e
    obtain rfl := vp.int
    obtain rfl := vq.int
    exact op_sub pins s σ H _ _ v u Q I rx ry ⟨_, _, rfl, rfl, done0 hh k (.int _)⟩
  · split at e
    · rename_i hz
      cases e
      obtain rfl := vp.int
      obtain rfl := vq.int
      exact op_mul pins s σ H _ _ v u Q I rx ry ⟨_, _, rfl, rfl, (by have hz' := of_decide_eq_true hz; exact hz'), done0 hh k (.int _)⟩
    · cases e
  · split at e
    · rename_i hz
      cases e
      obtain rfl := vp.str
      obtain rfl := vq.int
      obtain ⟨t1, rfl⟩ := rx
      obtain ⟨t2, rfl⟩ := ry
      exact PySem.SB.mul (of_decide_eq_true hz) fun t' k' => ⟨.str _, H, I.tok _, ⟨_, rfl⟩, done0 hh k (.str _)⟩
    · cases e
  · split at e
    · rename_i hz
      cases e
      simp only [Bool.and_eq_true] at hz
      obtain ⟨a, vs, d, rfl, h1, r1, _⟩ := vp.lst hh
      obtain rfl := vq.int
      have hb := of_decide_eq_true hz.1.2
      refine op_rep pins s σ H _ _ v u Q I rx ry ⟨a, _, vs, rfl, rfl, h1, hb.1, hb.2, ?_, fun l hl => doneL hh ((r1.fz0 hz.2).rep0 _) k hl⟩
      rw [← r1.length]
      exact okS_le hz.1.1
    · cases e
  · split at e
    · rename_i hz
      cases e
      obtain rfl := vp.int
      obtain rfl := vq.int
      exact op_mod pins s σ H _ _ v u Q I rx ry ⟨_, _, rfl, rfl, (by have hz' := of_decide_eq_true hz; exact hz'), done0 hh k (.int _)⟩
    · cases e
  · split at e
    · rename_i hz
      cases e
      obtain rfl := vp.int
      obtain rfl := vq.int
      exact op_fdivW pins s σ H _ _ v u Q I rx ry ⟨_, _, rfl, rfl, (by have hz' := of_decide_eq_true hz; exact hz'), done0 hh k (.int _)⟩
    · cases e
  · split at e
    · rename_i hz
      cases e
      obtain rfl := vp.int
      obtain rfl := vq.int
      exact op_pow pins s σ H _ _ v u Q I rx ry ⟨_, _, rfl, rfl, (by have hz' := of_decide_eq_true hz; exact hz'), done0 hh k (.int _)⟩
    · cases e
  · cases e
theorem eqv_flat {p q : PV} {d e : PyData} (fp : flat p = true) (fq : flat q = true) (hp : p.dat = some d) (hq : q.dat = some e) {x y : V} {c : List Cell} (vp : Vw ad K G c p x) (vq : Vw ad K G c q y) : flatV x = true ∧ flatV y = true ∧ eqV x y = PyData.eqv d e := by
  cases p <;> first
    | exact absurd (show false = true from fp) Bool.false_ne_true
    | skip
  all_goals cases q <;> first
    | exact absurd (show false = true from fq) Bool.false_ne_true
    | skip
  all_goals
    cases hp
    cases hq
    obtain ⟨_, r1, _⟩ := vp
    obtain ⟨_, r2, _⟩ := vq
    cases r1
    cases r2
    refine ⟨rfl, rfl, ?_⟩
    simp [eqV, PyData.eqv]
theorem any_flat {p : PV} {d : PyData} (fp : flat p = true) (hp : p.dat = some d) {x : V} {c : List Cell} (vp : Vw ad K G c p x) : ∀ {xs : List PV} {ds : List PyData} {vs : List V} {e : List Cell}, xs.all flat = true → PV.datL xs = some ds → RepL ad K G xs vs e → (∀ z ∈ e, z ∈ c) →
    vs.all flatV = true ∧ inV x vs = ds.any fun z => PyData.eqv z d
  | [], _, _, _, _, e, r, _ => by
    cases e
    obtain ⟨rfl, _⟩ := r.nil'
    exact ⟨rfl, rfl⟩
  | y :: ys, _, _, _, f, e, r, k => by
    simp only [List.all_cons, Bool.and_eq_true] at f
    simp only [PV.datL] at e
    cases q : y.dat with
    | none => rw [q] at e; cases e
    | some dy =>
      cases q2 : PV.datL ys with
      | none => rw [q, q2] at e; cases e
      | some ds =>
        rw [q, q2] at e
        cases e
        cases r with
        | cons r t =>
          obtain ⟨h1, h2⟩ := any_flat fp hp vp f.2 q2 t fun z hz => k z (List.mem_append_right _ hz)
          obtain ⟨h3, h4, h5⟩ := eqv_flat f.1 fp q hp (⟨_, r, fun z hz => k z (List.mem_append_left _ hz)⟩ : Vw ad K G c y _) vp
          refine ⟨by rw [List.all_cons, h3, h1]; rfl, ?_⟩
          unfold inV at h2 ⊢
          rw [List.any_cons, List.any_cons, h5, h2]
theorem done_bl {c : List Cell} {Q : VK} {b b' : Bool} (hh : Hold G c H) (k : ∀ v H' G' t, Step G c H G' (c ++ t) H' → Hold G' (c ++ t) H' → Rep ad K G' (.bl b) v t → Q v H') (e : b' = b) : Q (.bl b') H := by
  subst e
  exact done0 hh k (.bl _)
/-- is of a bool -/
theorem op_isB : OpR X (compareOp .Is) (fun x y H Q => ∃ b, y = .bl b ∧ Q (.bl (decide (x = .bl b))) H) := by
  intro pins s σ H x y v u Q I rx ry ⟨b, ey, q⟩
  subst ey
  cases (show u = Value.bool b from ry)
  have no : (∀ a, x ≠ .bl a) → (plainIs v (.bool b) = true) → v ≠ .bool b → wpAny (model X.prog X.w) X.A (compareOp .Is v (.bool b)) (EP X pins σ Q) X.xe s := fun h1 h2 h3 => wpAny_is_other h2 h3 ⟨.bl false, H, I, rfl, by simpa [h1 b] using q⟩
  cases x with
  | bl a =>
    cases (show v = Value.bool a from rx)
    by_cases e : a = b
    · subst e
      exact wpAny_is_self rfl ⟨.bl true, H, I, rfl, by simpa using q⟩
    · exact wpAny_is_other rfl (fun z => e (Value.bool.inj z)) ⟨.bl false, H, I, rfl, by simpa [e] using q⟩
  | _ =>
    first
      | (cases rx; exact no (fun _ z => by cases z) rfl (fun z => by cases z))
      | (obtain ⟨t, rfl⟩ := rx; exact no (fun _ z => by cases z) rfl (fun z => by cases z))
theorem op_notB : OpR X (compareOp .IsNot) (fun x y H Q => ∃ b, y = .bl b ∧ Q (.bl (!decide (x = .bl b))) H) := by
  intro pins s σ H x y v u Q I rx ry ⟨b, ey, q⟩
  subst ey
  cases (show u = Value.bool b from ry)
  have no : (∀ a, x ≠ .bl a) → (plainIs v (.bool b) = true) → v ≠ .bool b → wpAny (model X.prog X.w) X.A (compareOp .IsNot v (.bool b)) (EP X pins σ Q) X.xe s := fun h1 h2 h3 => wpAny_isNot_other h2 h3 ⟨.bl true, H, I, rfl, by simpa [h1 b] using q⟩
  cases x with
  | bl a =>
    cases (show v = Value.bool a from rx)
    by_cases e : a = b
    · subst e
      exact wpAny_isNot_self rfl ⟨.bl false, H, I, rfl, by simpa using q⟩
    · exact wpAny_isNot_other rfl (fun z => e (Value.bool.inj z)) ⟨.bl true, H, I, rfl, by simpa [e] using q⟩
  | _ =>
    first
      | (cases rx; exact no (fun _ z => by cases z) rfl (fun z => by cases z))
      | (obtain ⟨t, rfl⟩ := rx; exact no (fun _ z => by cases z) rfl (fun z => by cases z))
theorem op_cmpN (hu : X.A.units + 65 < cLine) (o : CmpOp) : OpR X (compareOp o) fun x y H Q => RN ad X.K (opN (.cmp o)) [x, y] H Q := by
  refine rn2 (g := fun p q => (cmpN o p q).map .bl) ?_ fun _ _ => rfl
  intro p q r e pins s σ G H c x y v u Q I rx ry vp vq hh k
  cases e0 : cmpN o p q with
  | none => rw [e0] at e; cases e
  | some b =>
    rw [e0] at e
    cases e
    unfold cmpN at e0
    split at e0
    · cases e1 : cdat p q with
      | none => rw [e1] at e0; cases e0
      | some z =>
        rw [e1] at e0
        cases e0
        obtain ⟨h1, h2, h3⟩ := cdat_some e1
        obtain ⟨as, r1⟩ := Dp.reads I _ x v (vp.dp hh h1) rx
        obtain ⟨bs, r2⟩ := Dp.reads I _ y u (vq.dp hh h2) ry
        exact (cmp_any (dat_nod h1) (dat_nod h2) r1 r2 (by omega)).1 _ _ _ _ ⟨.bl _, H, I, rfl, done0 hh k (.bl _)⟩
    · cases e1 : cdat p q with
      | none => rw [e1] at e0; cases e0
      | some z =>
        rw [e1] at e0
        cases e0
        obtain ⟨h1, h2, h3⟩ := cdat_some e1
        obtain ⟨as, r1⟩ := Dp.reads I _ x v (vp.dp hh h1) rx
        obtain ⟨bs, r2⟩ := Dp.reads I _ y u (vq.dp hh h2) ry
        exact (cmp_any (dat_nod h1) (dat_nod h2) r1 r2 (by omega)).2 _ _ _ _ ⟨.bl _, H, I, rfl, done0 hh k (.bl _)⟩
    · cases e0
      obtain rfl := vp.int
      obtain rfl := vq.int
      exact op_lt pins s σ H _ _ v u Q I rx ry ⟨_, _, rfl, rfl, done0 hh k (.bl _)⟩
    · cases e0
      obtain rfl := vp.int
      obtain rfl := vq.int
      exact op_le pins s σ H _ _ v u Q I rx ry ⟨_, _, rfl, rfl, done0 hh k (.bl _)⟩
    · cases e0
      obtain rfl := vp.int
      obtain rfl := vq.int
      exact op_gt pins s σ H _ _ v u Q I rx ry ⟨_, _, rfl, rfl, done0 hh k (.bl _)⟩
    · cases e0
      obtain rfl := vp.int
      obtain rfl := vq.int
      exact op_ge pins s σ H _ _ v u Q I rx ry ⟨_, _, rfl, rfl, done0 hh k (.bl _)⟩
    · cases e0
      obtain rfl := vp.str
      obtain rfl := vq.str
      exact op_lt_str pins s σ H _ _ v u Q I rx ry ⟨_, _, rfl, rfl, done0 hh k (.bl _)⟩
    · rename_i xs ys
      unfold ltD at e0
      cases e1 : (PV.tup xs).dat with
      | none => rw [e1] at e0; cases e0
      | some d =>
        cases e2 : (PV.tup ys).dat with
        | none => rw [e1, e2] at e0; cases e0
        | some e =>
          rw [e1, e2] at e0
          dsimp only at e0
          split at e0
          case isFalse => cases e0
          rename_i hc
          cases e0
          rw [Bool.and_eq_true, decide_eq_true_eq] at hc
          obtain ⟨as, r1⟩ := Dp.reads I d x v (vp.dp hh e1) rx
          obtain ⟨bs, r2⟩ := Dp.reads I e y u (vq.dp hh e2) ry
          refine PySem.W.lt_data r1 r2 hc.1 (fun z => ?_) (by omega) ⟨.bl _, H, I, rfl, done0 hh k (.bl _)⟩
          subst z
          simp only [PV.dat] at e1
          cases q : PV.datL xs with
          | none => rw [q] at e1; cases e1
          | some ds => rw [q] at e1; cases e1
    · cases e0
      obtain rfl := vp.str
      obtain rfl := vq.str
      refine op_le_str pins s σ H _ _ v u Q I rx ry ⟨_, _, rfl, rfl, done_bl hh k ?_⟩
      rename_i i j
      by_cases hlt : j.cps.toList < i.cps.toList
      · have : ¬ i.cps.toList ≤ j.cps.toList := fun z => z hlt
        simp [hlt, this]
      · have : i.cps.toList ≤ j.cps.toList := hlt
        simp [hlt, this]
    · -- is None
      obtain rfl := vq.non
      refine op_isN pins s σ H _ _ v u Q I rx ry ⟨rfl, ?_⟩
      refine done_bl hh k ?_
      obtain ⟨_, r, _⟩ := vp
      split at e0
      · cases e0; cases r; rfl
      · cases e0
      · rename_i hne hno
        cases e0
        cases r <;> first
          | exact absurd rfl hne
          | exact absurd rfl hno
          | simp
    · obtain rfl := vq.non
      refine op_notN pins s σ H _ _ v u Q I rx ry ⟨rfl, ?_⟩
      refine done_bl hh k ?_
      obtain ⟨_, r, _⟩ := vp
      split at e0
      · cases e0; cases r; rfl
      · cases e0
      · rename_i hne hno
        cases e0
        cases r <;> first
          | exact absurd rfl hne
          | exact absurd rfl hno
          | simp
    · obtain rfl := vq.bl
      refine op_isB pins s σ H _ _ v u Q I rx ry ⟨_, rfl, ?_⟩
      refine done_bl hh k ?_
      obtain ⟨_, r, _⟩ := vp
      split at e0
      · cases e0; cases r; simp
      · cases e0
      · rename_i hne hno
        cases e0
        cases r <;> first
          | exact absurd rfl (hne _)
          | exact absurd rfl hno
          | simp
    · obtain rfl := vq.bl
      refine op_notB pins s σ H _ _ v u Q I rx ry ⟨_, rfl, ?_⟩
      refine done_bl hh k ?_
      obtain ⟨_, r, _⟩ := vp
      split at e0
      · cases e0; cases r; simp
      · cases e0
      · rename_i hne hno
        cases e0
        cases r <;> first
          | exact absurd rfl (hne _)
          | exact absurd rfl hno
          | simp
    · -- in a list
      split at e0
      · rename_i hf
        rw [Bool.and_eq_true] at hf
        obtain ⟨d, ds, h1, h2, rfl⟩ := flatIn_some e0
        obtain ⟨a, vs, e, rfl, ha, ra, ka⟩ := vq.lst hh
        obtain ⟨q1, q2⟩ := any_flat hf.1 h1 vp hf.2 h2 ra ka
        refine op_in_seq pins s σ H _ _ v u Q I rx ry ⟨a, vs, rfl, .inl (.of ha), ?_, q1, ?_⟩
        · cases p <;> first
            | exact absurd (show false = true from hf.1) Bool.false_ne_true
            | (obtain ⟨_, r, _⟩ := vp; cases r; rfl)
        · rw [if_neg Bool.false_ne_true]
          exact done_bl hh k q2
      · obtain ⟨d, ds, h1, h2, h3, rfl⟩ := inSeq_some e0
        exact op_inA (by omega) pins s σ H _ _ v u Q I rx ry ⟨d, ds, vp.dp hh h1, .inl (vq.dp hh (by simp only [PV.dat, h2]; rfl)), dat_nod h1, datL_nod h2, h3, done0 hh k (.bl _)⟩
    · split at e0
      · rename_i hf
        rw [Bool.and_eq_true] at hf
        obtain ⟨d, ds, h1, h2, rfl⟩ := flatIn_some e0
        obtain ⟨a, vs, e, rfl, ha, ra, ka⟩ := vq.tup hh
        obtain ⟨q1, q2⟩ := any_flat hf.1 h1 vp hf.2 h2 ra ka
        refine op_in_seq pins s σ H _ _ v u Q I rx ry ⟨a, vs, rfl, .inr (.of ha), ?_, q1, ?_⟩
        · cases p <;> first
            | exact absurd (show false = true from hf.1) Bool.false_ne_true
            | (obtain ⟨_, r, _⟩ := vp; cases r; rfl)
        · rw [if_neg Bool.false_ne_true]
          exact done_bl hh k q2
      · obtain ⟨d, ds, h1, h2, h3, rfl⟩ := inSeq_some e0
        exact op_inA (by omega) pins s σ H _ _ v u Q I rx ry ⟨d, ds, vp.dp hh h1, .inr (vq.dp hh (by simp only [PV.dat, h2]; rfl)), dat_nod h1, datL_nod h2, h3, done0 hh k (.bl _)⟩
    · cases e0
      obtain rfl := vp.str
      obtain rfl := vq.str
      exact op_in_str pins s σ H _ _ v u Q I rx ry ⟨_, _, rfl, rfl, done0 hh k (.bl _)⟩
    · split at e0
      · rename_i hf
        rw [Bool.and_eq_true] at hf
        obtain ⟨b', e1, rfl⟩ := Option.map_eq_some_iff.mp e0
        obtain ⟨d, ds, h1, h2, rfl⟩ := flatIn_some e1
        obtain ⟨a, vs, e, rfl, ha, ra, ka⟩ := vq.lst hh
        obtain ⟨q1, q2⟩ := any_flat hf.1 h1 vp hf.2 h2 ra ka
        refine op_notIn_seq pins s σ H _ _ v u Q I rx ry ⟨a, vs, rfl, .inl (.of ha), ?_, q1, ?_⟩
        · cases p <;> first
            | exact absurd (show false = true from hf.1) Bool.false_ne_true
            | (obtain ⟨_, r, _⟩ := vp; cases r; rfl)
        · rw [if_pos rfl]
          exact done_bl hh k (by rw [q2])
      · obtain ⟨b', e1, rfl⟩ := Option.map_eq_some_iff.mp e0
        obtain ⟨d, ds, h1, h2, h3, rfl⟩ := inSeq_some e1
        exact op_notInA (by omega) pins s σ H _ _ v u Q I rx ry ⟨d, ds, vp.dp hh h1, .inl (vq.dp hh (by simp only [PV.dat, h2]; rfl)), dat_nod h1, datL_nod h2, h3, done0 hh k (.bl _)⟩
    · split at e0
      · rename_i hf
        rw [Bool.and_eq_true] at hf
        obtain ⟨b', e1, rfl⟩ := Option.map_eq_some_iff.mp e0
        obtain ⟨d, ds, h1, h2, rfl⟩ := flatIn_some e1
        obtain ⟨a, vs, e, rfl, ha, ra, ka⟩ := vq.tup hh
        obtain ⟨q1, q2⟩ := any_flat hf.1 h1 vp hf.2 h2 ra ka
        refine op_notIn_seq pins s σ H _ _ v u Q I rx ry ⟨a, vs, rfl, .inr (.of ha), ?_, q1, ?_⟩
        · cases p <;> first
            | exact absurd (show false = true from hf.1) Bool.false_ne_true
            | (obtain ⟨_, r, _⟩ := vp; cases r; rfl)
        · rw [if_pos rfl]
          exact done_bl hh k (by rw [q2])
      · obtain ⟨b', e1, rfl⟩ := Option.map_eq_some_iff.mp e0
        obtain ⟨d, ds, h1, h2, h3, rfl⟩ := inSeq_some e1
        exact op_notInA (by omega) pins s σ H _ _ v u Q I rx ry ⟨d, ds, vp.dp hh h1, .inr (vq.dp hh (by simp only [PV.dat, h2]; rfl)), dat_nod h1, datL_nod h2, h3, done0 hh k (.bl _)⟩
    · cases e0
      obtain rfl := vp.str
      obtain rfl := vq.str
      exact L2.op_notin_str pins s σ H _ _ v u Q I rx ry ⟨_, _, rfl, rfl, done_bl hh k (by simp)⟩
    · cases e0
theorem rn1 {c : List Cell} {g : List PV → Option PV} {x : V} {Q : VK} (h : RN ad K g [x] H Q) : ∃ p G c r, Vw ad K G c p x ∧ Hold G c H ∧ g [p] = some r ∧ ∀ v H' G' t, Step G c H G' (c ++ t) H' → Hold G' (c ++ t) H' → Rep ad K G' r v t → Q v H' := by
  obtain ⟨ps, G, c, r, hv, hh, e, k⟩ := h
  cases hv with
  | cons a t => cases t; exact ⟨_, G, c, r, a, hh, e, k⟩
theorem rn_2 {g : List PV → Option PV} {x y : V} {Q : VK} (h : RN ad K g [x, y] H Q) : ∃ p q G c r, Vw ad K G c p x ∧ Vw ad K G c q y ∧ Hold G c H ∧ g [p, q] = some r ∧ ∀ v H' G' t, Step G c H G' (c ++ t) H' → Hold G' (c ++ t) H' → Rep ad K G' r v t → Q v H' := by
  obtain ⟨ps, G, c, r, hv, hh, e, k⟩ := h
  cases hv with
  | cons a t => cases t with | cons b t => cases t; exact ⟨_, _, G, c, r, a, b, hh, e, k⟩
theorem atI_rep {xs : List PV} {vs : List V} {d : List Cell} {i : Int} {x : PV} (r : RepL ad K G xs vs d) (h : atI xs i = some x) : ∃ w e, atI vs i = some w ∧ Rep ad K G x w e ∧ ∀ z ∈ e, z ∈ d := by
  obtain ⟨j, h1, h2, h3, h4, h5⟩ := atI_get h
  obtain ⟨w, e, e1, e2, e3⟩ := r.get h2
  refine ⟨w, e, ?_, e2, e3⟩
  unfold atI at h ⊢
  rw [← r.length]
  cases q : ixN xs.length i with
  | none => rw [q] at h; cases h
  | some m =>
    have := (ixN_seq q).1
    rw [h1] at this
    cases this
    exact e1
theorem op_ixN : IxR X fun x y H Q => RN ad X.K (opN .ix) [x, y] H Q := by
  intro value slice pins s σ H x y v u Q I rx ry h hs
  obtain ⟨p, q, G, c, r, vp, vq, hh, e, k⟩ := rn_2 h
  change ixP p q = some r at e
  unfold ixP at e
  split at e
  · obtain rfl := vq.int
    split at e
    · split at e
      · rename_i hz
        obtain ⟨a, e1, rfl⟩ := Option.map_eq_some_iff.mp e
        obtain rfl := vp.str
        exact ix_str value slice pins s σ H _ _ v u Q I rx ry ⟨_, _, a, rfl, rfl, okS_le hz, e1, done0 hh k (.str _)⟩ hs
      · cases e
    · split at e
      · rename_i hq
        split at e
        · rename_i ha
          split at e
          · rename_i hf
            cases e
            obtain ⟨a, vs, d, rfl, h1, r1, k1⟩ := vp.seq hh hq
            obtain ⟨w, e, e1, e2, e3⟩ := atI_rep r1 ha
            have e4 := e2.nocell hf
            subst e4
            rcases h1 with h1 | h1
            · exact ix_list value slice pins s σ H _ _ v u Q I rx ry ⟨a, vs, _, w, rfl, rfl, h1, e1, done0 hh k e2⟩ hs
            · exact ix_tup value slice pins s σ H _ _ v u Q I rx ry ⟨a, vs, _, w, rfl, rfl, h1, e1, done0 hh k e2⟩ hs
          · cases e
        · cases e
      · cases e
  · cases e
theorem cut_rep {xs : List PV} {vs : List V} (r : RepL ad K G xs vs []) (lo hi : Option Int) : RepL ad K G (cutP xs lo hi) (cutV vs lo hi) [] := by
  unfold cutP cutV
  rw [r.length]
  exact (r.drop0 _).take0 _
/-- a slice, by its parts -/
def rSlN (K : PySem.W.Frag) : V → Option Int → Option Int → Hp → VK → Prop := fun x lo hi H Q => (rSlL K x lo hi H Q ∨ rSlS x lo hi H Q) ∨ rSlA K x lo hi H Q
theorem cut_whole {α : Type} {xs : List α} {lo hi : Option Int} (h : HT.sIx xs.length 0 lo = 0 ∧ HT.sIx xs.length xs.length hi = xs.length) : cutP xs lo hi = xs := by
  unfold cutP
  rw [h.1, h.2]
  simp
theorem sl_N {p : PV} {r : PV} {lo hi : Option Int} {c : List Cell} {x : V} {Q : VK} (vp : Vw ad X.K G c p x) (hh : Hold G c H) (e : sliceN p lo hi = some r) (k : ∀ v H' G' t, Step G c H G' (c ++ t) H' → Hold G' (c ++ t) H' → Rep ad X.K G' r v t → Q v H') : rSlN X.K x lo hi H Q := by
  unfold sliceN at e
  split at e
  · split at e
    · rename_i hf
      cases e
      obtain ⟨a, vs, d, rfl, h1, r1, _⟩ := vp.lst hh
      exact .inl (.inl ⟨a, vs, rfl, .of h1, fun l hl => doneL hh (cut_rep (r1.fz0 hf) lo hi) k hl⟩)
    · cases e
  · split at e
    · rename_i hf
      cases e
      obtain ⟨a, vs, rfl, h1, r1⟩ := vp.lck hh
      exact .inl (.inl ⟨a, vs, rfl, h1, fun l hl => doneL hh (cut_rep r1 lo hi) k hl⟩)
    · cases e
  · split at e
    · rename_i hf
      cases e
      obtain ⟨a, vs, d, rfl, h1, r1, _⟩ := vp.tup hh
      refine .inr ⟨a, vs, rfl, .of h1, fun hw => ?_, fun hw l hl => doneT hh (cut_rep (r1.fz0 hf) lo hi) k hl⟩
      rw [← r1.length] at hw
      rw [cut_whole hw] at k
      obtain ⟨d0, r0, _⟩ := vp
      refine done0 hh k ?_
      cases r0 with
      | tup g r => exact .tup g (r.fz0 hf)
    · cases e
  · split at e
    · rename_i hz
      cases e
      obtain rfl := vp.str
      exact .inl (.inr ⟨_, rfl, okS_le hz, done0 hh k (.str _)⟩)
    · cases e
  · cases e
theorem callN_len : CallR X (.builtin "len") fun xs H Q => RN ad X.K (opN .len) xs H Q := by
  intro pins s σ H xs us Q I r h
  obtain ⟨ps, G, c, z, hv, hh, e, k⟩ := h
  match ps, hv with
  | [p], .cons vp .nil =>
    change lenP p = some z at e
    unfold lenP at e
    split at e
    · split at e
      · rename_i hz
        cases e
        obtain rfl := vp.str
        exact call_len pins s σ H _ us Q I r ⟨_, _, rfl, ⟨okS_le hz, rfl⟩, done0 hh k (.int _)⟩
      · cases e
    · obtain ⟨xs, e1, rfl⟩ := Option.map_eq_some_iff.mp e
      obtain ⟨a, vs, d, rfl, h1, r1, k1⟩ := vp.seq hh e1
      refine call_len pins s σ H _ us Q I r ⟨_, vs.length, rfl, ?_, ?_⟩
      · rcases h1 with h1 | h1
        · exact .inl ⟨vs, h1, rfl⟩
        · exact .inr ⟨vs, h1, rfl⟩
      · rw [← r1.length]
        exact done0 hh k (.int _)
  | [], _ => cases e
  | _ :: _ :: _, _ => cases e
theorem callN_list : CallR X (.type "list") fun xs H Q => RN ad X.K (opN .list) xs H Q := by
  intro pins s σ H xs us Q I r h
  obtain ⟨ps, G, c, z, hv, hh, e, k⟩ := h
  match ps, hv with
  | [p], .cons vp .nil =>
    change listP p = some z at e
    unfold listP at e
    split at e
    · rename_i e1
      split at e
      · rename_i hf
        cases e
        obtain ⟨a, vs, d, rfl, h1, r1, k1⟩ := vp.seq hh e1
        exact call_list_of pins s σ H _ us Q I r ⟨a, vs, rfl, h1, fun l hl => doneL hh (r1.fz0 hf) k hl⟩
      · cases e
    · cases e
  | [], _ => cases e
  | _ :: _ :: _, _ => cases e
theorem callN_tuple : CallR X (.type "tuple") fun xs H Q => RN ad X.K (opN .tuple) xs H Q := by
  intro pins s σ H xs us Q I r h
  obtain ⟨ps, G, c, z, hv, hh, e, k⟩ := h
  match ps, hv with
  | [p], .cons vp .nil =>
    change tupleP p = some z at e
    unfold tupleP at e
    split at e
    · split at e
      · rename_i hf
        cases e
        obtain ⟨a, vs, d, rfl, h1, r1, k1⟩ := vp.lst hh
        exact call_tuple_of pins s σ H _ us Q I r ⟨a, vs, rfl, .inl ⟨.of h1, fun l hl => doneT hh (r1.fz0 hf) k hl⟩⟩
      · cases e
    · split at e
      · rename_i hf
        cases e
        obtain ⟨d, r0, k0⟩ := vp
        cases r0 with
        | tup g r1 =>
          have r1' := r1.fz0 hf
          exact call_tuple_of pins s σ H _ us Q I r ⟨_, _, rfl, .inr ⟨.of (hh.fz _ _ g), done0 hh k (.tup g r1')⟩⟩
      · cases e
    · cases e
  | [], _ => cases e
  | _ :: _ :: _, _ => cases e
theorem callN_int : CallR X (.type "int") fun xs H Q => RN ad X.K (opN .int) xs H Q := by
  intro pins s σ H xs us Q I r h
  obtain ⟨ps, G, c, z, hv, hh, e, k⟩ := h
  match ps, hv with
  | [p], .cons vp .nil =>
    change intP p = some z at e
    unfold intP at e
    split at e
    · cases e
      obtain rfl := vp.int
      exact call_int1 pins s σ H _ us Q I r (.inl ⟨_, rfl, done0 hh k (.int _)⟩)
    · cases e
      obtain rfl := vp.bl
      exact call_int1 pins s σ H _ us Q I r (.inr ⟨_, rfl, done0 hh k (.int _)⟩)
    · cases e
  | [], _ => cases e
  | _ :: _ :: _, _ => cases e
theorem callN_str : CallR X (.type "str") fun xs H Q => RN ad X.K (opN .str) xs H Q := by
  intro pins s σ H xs us Q I r h
  obtain ⟨ps, G, c, z, hv, hh, e, k⟩ := h
  match ps, hv with
  | [p], .cons vp .nil =>
    change strP p = some z at e
    unfold strP at e
    split at e
    · split at e
      · rename_i hz
        cases e
        obtain rfl := vp.int
        exact call_str_int pins s σ H _ us Q I r ⟨_, rfl, of_decide_eq_true hz, done0 hh k (.str _)⟩
      · cases e
    · cases e
  | [], _ => cases e
  | _ :: _ :: _, _ => cases e
theorem lstOf_some {p : PV} {xs : List PV} (h : lstOf p = some xs) : ∃ o, p = .lst o xs := by
  cases p with
  | lst o ys => cases h; exact ⟨o, rfl⟩
  | _ => cases h
theorem callN_all (hc : X.calm = true) : CallR X (.builtin "all") fun xs H Q => RN ad X.K (opN .all) xs H Q := by
  intro pins s σ H xs us Q I r h
  obtain ⟨ps, G, c, z, hv, hh, e, k⟩ := h
  match ps, hv with
  | [p], .cons vp .nil =>
    obtain ⟨bs, e1, rfl⟩ := Option.map_eq_some_iff.mp (show ((lstOf p).bind boolsP).map _ = some z from e)
    obtain ⟨xs, e2, e3⟩ := Option.bind_eq_some_iff.mp e1
    obtain ⟨o, rfl⟩ := lstOf_some e2
    obtain rfl := boolsP_map e3
    obtain ⟨a, vs, d, rfl, h1, r1, k1⟩ := vp.lst hh
    obtain rfl := r1.bls
    exact cr_all hc pins s σ H _ us Q I r ⟨a, bs, rfl, .of h1, done0 hh k (.bl _)⟩
  | [], _ => cases e
  | _ :: _ :: _, _ => cases e
theorem callN_any (hc : X.calm = true) : CallR X (.builtin "any") fun xs H Q => RN ad X.K (opN .any) xs H Q := by
  intro pins s σ H xs us Q I r h
  obtain ⟨ps, G, c, z, hv, hh, e, k⟩ := h
  match ps, hv with
  | [p], .cons vp .nil =>
    obtain ⟨bs, e1, rfl⟩ := Option.map_eq_some_iff.mp (show ((lstOf p).bind boolsP).map _ = some z from e)
    obtain ⟨xs, e2, e3⟩ := Option.bind_eq_some_iff.mp e1
    obtain ⟨o, rfl⟩ := lstOf_some e2
    obtain rfl := boolsP_map e3
    obtain ⟨a, vs, d, rfl, h1, r1, k1⟩ := vp.lst hh
    obtain rfl := r1.bls
    exact cr_any hc pins s σ H _ us Q I r ⟨a, bs, rfl, .of h1, done0 hh k (.bl _)⟩
  | [], _ => cases e
  | _ :: _ :: _, _ => cases e
theorem callN_sum (hc : X.calm = true) : CallR X (.builtin "sum") fun xs H Q => RN ad X.K (opN .sum) xs H Q := by
  intro pins s σ H xs us Q I r h
  obtain ⟨ps, G, c, z, hv, hh, e, k⟩ := h
  match ps, hv with
  | [p], .cons vp .nil =>
    obtain ⟨bs, e1, rfl⟩ := Option.map_eq_some_iff.mp (show ((lstOf p).bind intsP).map _ = some z from e)
    obtain ⟨xs, e2, e3⟩ := Option.bind_eq_some_iff.mp e1
    obtain ⟨o, rfl⟩ := lstOf_some e2
    obtain rfl := intsP_map e3
    obtain ⟨a, vs, d, rfl, h1, r1, k1⟩ := vp.lst hh
    obtain rfl := r1.ints
    exact cr_sum hc pins s σ H _ us Q I r ⟨a, bs, rfl, .of h1, done0 hh k (.int _)⟩
  | [], _ => cases e
  | _ :: _ :: _, _ => cases e
theorem callN_min2 (hc : X.calm = true) : CallR X (.builtin "min") fun xs H Q => RN ad X.K (opN .min2) xs H Q := by
  intro pins s σ H xs us Q I r h
  obtain ⟨ps, G, c, z, hv, hh, e, k⟩ := h
  match ps, hv with
  | [p, q], .cons vp (.cons vq .nil) =>
    cases p with
    | int i =>
      cases q with
      | int j =>
        cases e
        obtain rfl := vp.int
        obtain rfl := vq.int
        exact call_min2 hc pins s σ H _ us Q I r ⟨_, _, rfl, done0 hh k (.int _)⟩
      | _ => cases e
    | _ => cases e
  | [], _ => cases e
  | [_], _ => cases e
  | _ :: _ :: _ :: _, _ => cases e
theorem maxI_mem : ∀ (a : Int) (r : List Int), maxI a r ∈ a :: r ∧ ∀ y ∈ a :: r, y ≤ maxI a r
  | a, [] => ⟨by simp [maxI], by simp [maxI]⟩
  | a, b :: r => by
    unfold maxI
    obtain ⟨h1, h2⟩ := maxI_mem (if b > a then b else a) r
    refine ⟨?_, fun y hy => ?_⟩
    · rcases List.mem_cons.mp h1 with h | h
      · rw [h]
        split <;> simp
      · simp [h]
    · rcases List.mem_cons.mp hy with h | h
      · have := h2 (if b > a then b else a) List.mem_cons_self
        generalize maxI (if b > a then b else a) r = m at this ⊢
        split at this <;> omega
      · rcases List.mem_cons.mp h with h | h
        · have := h2 (if b > a then b else a) List.mem_cons_self
          generalize maxI (if b > a then b else a) r = m at this ⊢
          split at this <;> omega
        · exact h2 y (List.mem_cons_of_mem _ h)
theorem callN_max (hc : X.calm = true) : CallR X (.builtin "max") fun xs H Q => RN ad X.K (opN .max) xs H Q := by
  intro pins s σ H xs us Q I r h
  obtain ⟨ps, G, c, z, hv, hh, e, k⟩ := h
  match ps, hv with
  | [p], .cons vp .nil =>
    change maxP p = some z at e
    unfold maxP at e
    split at e
    · rename_i n ns e1
      cases e
      obtain ⟨xs, e2, e3⟩ := Option.bind_eq_some_iff.mp e1
      obtain ⟨o, rfl⟩ := lstOf_some e2
      obtain rfl := intsP_map e3
      obtain ⟨a, vs, d, rfl, h1, r1, k1⟩ := vp.lst hh
      obtain rfl := r1.ints
      refine cr_max hc pins s σ H _ us Q I r ⟨a, n :: ns, rfl, .of h1, by simp, fun m hm hmax => ?_⟩
      obtain ⟨q1, q2⟩ := maxI_mem n ns
      have : m = maxI n ns := Int.le_antisymm (q2 m hm) (hmax _ q1)
      rw [this]
      exact done0 hh k (.int _)
    · cases e
  | [], _ => cases e
  | _ :: _ :: _, _ => cases e
section
variable {β : Type}
theorem each_vals (f : β → V) : ∀ {bs : List β} {us : List Value}, Vals (bs.map f) us → PySem.W.EachIs (fun v b => RelV (f b) v) us bs
  | [], _, h => by cases h; exact .nil
  | b :: bs, _, h => by
    cases h with
    | cons r t => exact .cons r (each_vals f t)
theorem vals_each (f : β → V) : ∀ {bs : List β} {us : List Value}, PySem.W.EachIs (fun v b => RelV (f b) v) us bs → Vals (bs.map f) us
  | _, _, .nil => .nil
  | _, _, .cons r t => .cons r (vals_each f t)
theorem each_imp {R R' : Value → β → Prop} (h : ∀ v b, R v b → R' v b) : ∀ {us : List Value} {bs : List β}, PySem.W.EachIs R us bs → PySem.W.EachIs R' us bs
  | _, _, .nil => .nil
  | _, _, .cons r t => .cons (h _ _ r) (each_imp h t)
theorem sorted_go {pins : List (Addr × Obj)} {s : Shared} {σ : St} {a : Addr} {Q : VK} (f : β → V) (enc : β → PyData) (bs : List β) (I : Inv X pins σ H s) (hs : H a = some (.lst (bs.map f)))
    (hr : ∀ (h : Heap) (v : Value) (b : β), RelV (f b) v → ∃ as, Reads h v (enc b) as) (hal : ∀ b b', PySem.W.alike (enc b) (enc b') = true) (hn : ∀ b, enc b ≠ .none ∧ ∀ xs, enc b ≠ .tuple xs) (hd : ∀ b, (enc b).depth = 0) (hu : X.A.units + 65 < cLine)
    (q : ∀ p, H p = none → Q (.ref p) (upd H p (.lst ((bs.mergeSort (PySem.W.dataLe false enc)).map f)))) : wpAny (model X.prog X.w) X.A (call (.builtin "sorted") [.ref a]) (EP X pins σ Q) X.xe s := by
  obtain ⟨its, rv, hl, hz⟩ := I.list (.of hs)
  rw [List.length_map] at hz
  have e1 := each_vals f rv
  refine PySem.W.sorted_data (R := fun v b => RelV (f b) v) (enc := enc) (bs := bs) hl.isList e1 (each_imp (fun v b => hr _ v b) e1) (PySem.W.AllAlike.of hal) (PySem.W.Sortable.others hn) hz (fun b _ => by rw [hd]; omega) fun out ho hR => ?_
  obtain ⟨ep, he'⟩ := PyProof.Rows.sortedAll_at s.heap its out.toArray
  have hlen : ((bs.mergeSort (PySem.W.dataLe false enc)).map f).length ≤ sizeLine := by rw [List.length_map, List.length_mergeSort]; exact hz
  exact ⟨.ref _, upd H (s.heap.objs.size + 1) (.lst ((bs.mergeSort (PySem.W.dataLe false enc)).map f)), I.laid (t' := s.toks) (fun _ _ => PyProof.Rows.sortedAll_old) (Nat.le_succ _) ⟨hlen, out, ep, vals_each f hR, he'⟩, rfl, q _ (I.hok.fresh (Nat.le_succ _))⟩
end
theorem callN_sorted (hu : X.A.units + 65 < cLine) : CallR X (.builtin "sorted") fun xs H Q => RN ad X.K (opN .sorted) xs H Q := by
  intro pins s σ H xs us Q I r h
  obtain ⟨ps, G, c, z, hv, hh, e, k⟩ := h
  match ps, hv with
  | [p], .cons vp .nil =>
    obtain ⟨xs, e1, e2⟩ := Option.bind_eq_some_iff.mp (show sortedP p = some z from e)
    obtain ⟨o, rfl⟩ := lstOf_some e1
    obtain ⟨a, vs, d, rfl, h1, r1, k1⟩ := vp.lst hh
    rw [Vals.ref1 r]
    split at e2
    · rename_i ns e3
      cases e2
      obtain rfl := intsP_map e3
      obtain rfl := r1.ints
      refine sorted_go V.int PyData.int ns I h1 (fun h v b ⟨t, e⟩ => by subst e; exact ⟨_, Reads.int b t⟩) (fun _ _ => by simp [PySem.W.alike]) (fun b => ⟨fun z => (by cases z), fun xs z => (by cases z)⟩) (fun b => by simp [PyData.depth]) hu fun p hp => ?_
      rw [PySem.W.dataLe_int (fun b => b)]
      exact doneL hh (repL_ints _) k hp
    · obtain ⟨ys, e3, rfl⟩ := Option.map_eq_some_iff.mp e2
      obtain rfl := strsP_map e3
      obtain rfl := r1.strs
      refine sorted_go V.str PyData.str ys I h1 (fun h v b ⟨t, e⟩ => by subst e; exact ⟨_, Reads.str b t⟩) (fun _ _ => by simp [PySem.W.alike]) (fun b => ⟨fun z => (by cases z), fun xs z => (by cases z)⟩) (fun b => by simp [PyData.depth]) hu fun p hp => ?_
      rw [PySem.W.dataLe_str (fun b => b)]
      exact doneL hh (repL_strs _) k hp
  | [], _ => cases e
  | _ :: _ :: _, _ => cases e
theorem isi_kit {t T : String} (ht : t = "NoneType" ∨ t = "bool" ∨ t = "int" ∨ t = "str" ∨ t = "list" ∨ t = "tuple") (hT : isiOk.contains T = true) : kitB t T = some (isiT t T) := by
  have hT' : T = "int" ∨ T = "str" ∨ T = "bool" ∨ T = "list" ∨ T = "tuple" := by simpa [isiOk] using hT
  rcases hT' with rfl | rfl | rfl | rfl | rfl <;> rcases ht with rfl | rfl | rfl | rfl | rfl | rfl <;> decide +kernel
theorem Vw.ty_ {c : List Cell} {p : PV} {x : V} {t : String} (vp : Vw ad X.K G c p x) (hh : Hold G c H) (e : tyN p = some t) : TyX X.K H x (.type t) ∧ (t = "NoneType" ∨ t = "bool" ∨ t = "int" ∨ t = "str" ∨ t = "list" ∨ t = "tuple") := by
  cases p with
  | non => cases e; obtain rfl := vp.non; exact ⟨.base .non, by simp⟩
  | bl b => cases e; obtain rfl := vp.bl; exact ⟨.base (.bl _), by simp⟩
  | int i => cases e; obtain rfl := vp.int; exact ⟨.base (.int _), by simp⟩
  | str i => cases e; obtain rfl := vp.str; exact ⟨.base (.str _), by simp⟩
  | lst o xs =>
    cases e
    obtain ⟨a, vs, d, rfl, h1, _⟩ := vp.lst hh
    exact ⟨.base (.lst h1), by simp⟩
  | tup xs =>
    cases e
    obtain ⟨a, vs, d, rfl, h1, _⟩ := vp.tup hh
    exact ⟨.base (.tup h1), by simp⟩
  | _ => cases e
theorem mtN_join : MtR X "str.join" fun x xs H Q => RN ad X.K (opN .join) (x :: xs) H Q := by
  intro pins s σ H x xs v us Q I rx rs h
  obtain ⟨ps, G, c, z, hv, hh, e, k⟩ := h
  match ps, hv with
  | [p, q], .cons vp (.cons vq .nil) =>
    change joinP p q = some z at e
    unfold joinP at e
    split at e
    · rename_i z' ys e1
      split at e
      · rename_i hz
        cases e
        obtain ⟨xs, e2, e3⟩ := Option.bind_eq_some_iff.mp e1
        obtain ⟨o, rfl⟩ := lstOf_some e2
        obtain rfl := strsP_map e3
        obtain rfl := vp.str
        obtain ⟨a, vs, d, rfl, h1, r1, k1⟩ := vq.lst hh
        obtain rfl := r1.strs
        exact mt_join pins s σ H _ _ v us Q I rx rs ⟨_, a, ys, rfl, rfl, .inl (.of h1), of_decide_eq_true hz, done0 hh k (.str _)⟩
      · cases e
    · cases e
  | [], _ => cases e
  | [_], _ => cases e
  | _ :: _ :: _ :: _, _ => cases e
/-- truth -/
theorem tru_N {c : List Cell} {p : PV} {x : V} {b : Bool} (vp : Vw ad X.K G c p x) (hh : Hold G c H) (e : truth p = some b) : TruV X.K x H b := by
  unfold truth at e
  cases p with
  | non => cases e; obtain rfl := vp.non; exact rfl
  | bl b => cases e; obtain rfl := vp.bl; exact rfl
  | int i => cases e; obtain rfl := vp.int; exact rfl
  | str i =>
    obtain rfl := vp.str
    dsimp only at e
    split at e
    · rename_i hz
      cases e
      exact ⟨okS_le hz, rfl⟩
    · cases e
  | lst o xs =>
    cases e
    obtain ⟨a, vs, d, rfl, h1, r1, _⟩ := vp.lst hh
    refine .inl ⟨vs, .of h1, ?_⟩
    cases r1 <;> rfl
  | lck xs =>
    cases e
    obtain ⟨a, vs, rfl, h1, r1⟩ := vp.lck hh
    refine .inl ⟨vs, h1, ?_⟩
    generalize ([] : List Cell) = z at r1
    cases r1 <;> rfl
  | tup xs =>
    cases e
    obtain ⟨a, vs, d, rfl, h1, r1, _⟩ := vp.tup hh
    refine .inr (.inl ⟨vs, .of h1, ?_⟩)
    cases r1 <;> rfl
  | _ => cases e
end
end Y
end
section
set_option Elab.async false
set_option linter.all false
set_option maxRecDepth 100000
set_option maxHeartbeats 2000000
set_option autoImplicit false
/-! Y3o: instances of the text's classes: how they stand, isinstance. -/
namespace Y
open PySem PySem.Spec PyProof.Rows L2
variable {ad : Ad} {K : PySem.W.Frag} {G G' G1 G2 H H' H1 H2 : Hp}
/-- an instance as it stands -/
structure ObjAt (nm : Nm) (K : PySem.W.Frag) (H : Hp) (a : Addr) (k : CK) (vs : List V) : Prop where
  ck : CkOk nm K k
  ex : ∃ dx, dx ≠ a ∧ H a = some (objH (nm.fn k.cls) a dx k vs) ∧ H dx = some (dicH a k vs)
  le : vs.length ≤ k.fn.length
theorem Vw.obj {c : List Cell} {v : V} {o : Bool} {k : CK} {xs : List PV} (h : Vw ad K G c (.obj o k xs) v) (hh : Hold G c H) : ∃ a vs d, v = .ref a ∧ ObjAt ad.nm K H a k vs ∧ RepL ad K G xs vs d ∧ ∀ z ∈ d, z ∈ c := by
  obtain ⟨d, r, kk⟩ := h
  cases r with
  | objF c1 n l h1 h2 r => exact ⟨_, _, _, rfl, ⟨c1, ⟨_, n, hh.fz _ _ h1, hh.fz _ _ h2⟩, by rw [← r.length]; exact l⟩, r, kk⟩
  | objO c1 n l r => exact ⟨_, _, _, rfl, ⟨c1, ⟨_, n, hh.at_ _ (kk _ List.mem_cons_self), hh.at_ _ (kk _ (List.mem_cons_of_mem _ List.mem_cons_self))⟩, by rw [← r.length]; exact l⟩, r, fun z hz => kk z (List.mem_cons_of_mem _ (List.mem_cons_of_mem _ hz))⟩
theorem Vw.cl {c : List Cell} {v : V} {k : CK} (h : Vw ad K G c (.cl k) v) : v = .ref (ad.nm.fn k.cls) ∧ CkOk ad.nm K k := by
  obtain ⟨d, r, _⟩ := h
  cases r with
  | cl c1 => exact ⟨rfl, c1⟩
section
variable {X : Cx} {pins : List (Addr × Obj)} {σ : L2.St} {s : Shared} {nm : Nm} {a : Addr} {k : CK} {vs : List V}
theorem objH_dict {C dx : Addr} (h : k.sl = none) : objH C a dx k vs = .ins C dx (k.fn.zip vs) := by unfold objH; rw [h]
theorem dicH_dict (h : k.sl = none) : dicH a k vs = .own a := by unfold dicH; rw [h]
/-- with slots -/
theorem ObjAt.slt {ps : List Nat} (O : ObjAt nm K H a k vs) (h : k.sl = some ps) : ∃ dx, dx ≠ a ∧ SlX.Slt H a (nm.fn k.cls) dx (slotV ps vs) := by
  obtain ⟨dx, n, h1, h2⟩ := O.ex
  refine ⟨dx, n, ?_⟩
  unfold objH at h1
  unfold dicH at h2
  rw [h] at h1 h2
  cases vs with
  | nil => exact .inl ⟨h1, by unfold slotV; cases ps <;> rfl⟩
  | cons v vs => exact .inr ⟨h1, h2⟩
/-- what is there in the machine's heap -/
theorem ObjAt.inst (O : ObjAt nm X.K H a k vs) (I : Inv X pins σ H s) : ∃ ox od, PySem.W.InstAt s.heap a ox (nm.fn k.cls) (some od) ∧ ox.data = .plain ∧ ∀ f, f ∉ k.fn → PySem.W.lookIn f od = some none := by
  cases h : k.sl with
  | none =>
    obtain ⟨dx, n, h1, h2⟩ := O.ex
    rw [objH_dict h] at h1
    obtain ⟨mA, M, r, _⟩ := ins_get I.hok h1
    obtain ⟨od, J, hl⟩ := M.look
    refine ⟨_, od, J, rfl, fun f hf => ?_⟩
    rw [hl f]
    have e : (k.fn.zip vs).lookup f = none := by
      rw [List.lookup_eq_none_iff]
      intro p hp
      have h3 := (List.of_mem_zip (a := p.1) (b := p.2) hp).1
      by_cases z : f = p.1
      · exact absurd (z ▸ h3) hf
      · simpa using z
    have := r f
    rw [e] at this
    rw [RelO.none_of this]
  | some ps =>
    obtain ⟨dx, n, hs⟩ := O.slt h
    obtain ⟨sl, od, _, J, hl⟩ := SlX.slt_inst I hs
    exact ⟨_, od, J, rfl, fun f _ => hl f⟩
/-- isinstance of it -/
theorem ObjAt.isi (O : ObjAt nm X.K H a k vs) (I : Inv X pins σ H s) {u : Value} {b : Bool} {Q : VK} (hk : PySem.W.kitOne X.K (.ref (nm.fn k.cls)) u = some b) (q : Q (.bl b) H) : wpAny (model X.prog X.w) X.A (call (.builtin "isinstance") [.ref a, u]) (EP X pins σ Q) X.xe s := by
  obtain ⟨ox, od, J, _⟩ := O.inst I
  exact PySem.W.kia_one (OwX.kitx_slt O.ck.ic O.ck.pg O.ck.cc O.ck.cg O.ck.ct O.ck.co) I.kIn J hk (fun z => nomatch z) fun tk => ⟨.bl b, H, I.tok _, rfl, q⟩
end
section
variable {X : Cx}
theorem callN_isi : CallR X (.builtin "isinstance") fun xs H Q => RN ad X.K (opN .isi) xs H Q := by
  intro pins s σ H xs us Q I r h
  obtain ⟨ps, G, c, z, hv, hh, e, k⟩ := h
  match ps, hv with
  | [p, q], .cons vp (.cons vq .nil) =>
    change isiP p q = some z at e
    unfold isiP at e
    split at e
    · rename_i T
      split at e
      · rename_i hT
        split at e
        · rename_i t e1
          cases e
          obtain rfl := vq.ty
          obtain ⟨h1, h2⟩ := vp.ty_ hh e1
          exact call_isi pins s σ H _ us Q I r ⟨_, _, _, _, _, rfl, .ty T, h1, kit_ty (isi_kit h2 hT), done0 hh k (.bl _)⟩
        · split at e
          · cases e
            rename_i e1 ho
            cases p <;> first
              | cases ho
              | skip
            obtain ⟨a, vs, d, rfl, O, _, _⟩ := vp.obj hh
            obtain rfl := vq.ty
            obtain ⟨u1, u2, rfl, r1, r2⟩ := vals2 r
            cases (show u1 = Value.ref a from r1)
            cases (show u2 = Value.type T from r2)
            exact O.isi I (O.ck.bt T (List.contains_iff_mem.mp hT)) (done0 hh k (.bl _))
          · cases e
      · cases e
    · cases e
  | [], _ => cases e
  | [_], _ => cases e
  | _ :: _ :: _ :: _, _ => cases e
theorem callN_isk : CallR X (.builtin "isinstance") fun xs H Q => RN ad X.K (opN .isk) xs H Q := by
  intro pins s σ H xs us Q I r h
  obtain ⟨ps, G, c, z, hv, hh, e, k⟩ := h
  match ps, hv with
  | [p, .cl cc], .cons vp (.cons vq .nil) =>
    obtain ⟨ev, cq⟩ := vq.cl
    subst ev
    obtain ⟨u1, u2, rfl, r1, r2⟩ := vals2 r
    cases (show u2 = Value.ref _ from r2)
    change iskP p cc = some z at e
    unfold iskP at e
    split at e
    · obtain ⟨b, e1, rfl⟩ := Option.map_eq_some_iff.mp e
      obtain ⟨a, vs, d, rfl, O, _, _⟩ := vp.obj hh
      cases (show u1 = Value.ref a from r1)
      exact O.isi I (O.ck.up _ _ e1).1 (done0 hh k (.bl _))
    · obtain ⟨t, e1, rfl⟩ := Option.map_eq_some_iff.mp e
      obtain ⟨ty, ht⟩ := vp.ty_ hh e1
      obtain ⟨P, Z, p, hx⟩ := kit_of I r1 ty
      refine PySem.W.kia_one Z I.kIn p (cq.nk t ?_).1 hx fun tk => ⟨.bl false, H, I.tok tk, rfl, done0 hh k (.bl _)⟩
      simpa using ht
  | [], _ => cases e
  | [_], _ => cases e
  | _ :: _ :: _ :: _, _ => simp [opN] at e
theorem idxD_spec {d : PyData} : ∀ {ds : List PyData} {i : Nat}, idxD d ds = some i → i < ds.length ∧ (∃ z, ds[i]? = some z ∧ PyData.eqv z d = true) ∧ ∀ j < i, ∀ z, ds[j]? = some z → PyData.eqv z d = false
  | [], i, h => by cases h
  | z :: r, i, h => by
    unfold idxD at h
    split at h
    · rename_i hz
      cases h
      exact ⟨by simp, ⟨z, rfl, hz⟩, fun j hj => absurd hj (Nat.not_lt_zero _)⟩
    · rename_i hz
      obtain ⟨m, h1, rfl⟩ := Option.map_eq_some_iff.mp h
      obtain ⟨h2, ⟨w, h3, h4⟩, h5⟩ := idxD_spec h1
      refine ⟨by simpa using h2, ⟨w, by simpa using h3, h4⟩, fun j hj y hy => ?_⟩
      cases j with
      | zero => cases hy; simpa using hz
      | succ j => exact h5 j (by omega) y (by simpa using hy)
end
end Y
end
section
set_option Elab.async false
set_option linter.all false
set_option maxRecDepth 100000
set_option maxHeartbeats 2000000
set_option autoImplicit false
/-! Y4: judgements by the evaluator: expressions. -/
namespace Y
open PySem L2
variable {ad : Ad} {K : PySem.W.Frag} {G G' G1 G2 H H' H1 H2 : Hp}

abbrev RRel (α β : Type) := St → Hp → α → β → List Cell → Prop
/-- what is wanted behind the evaluator's result -/
def Aft (ad : Ad) (K : PySem.W.Frag) (W : WX) (σ : St) {α β : Type} (R : RRel α β) (G : Hp) (c : List Cell) (H : Hp) (Q : β → Hp → Prop) : Res α → Prop
  | .ok a ρ => ∀ v H' G' c' t, Step G c H G' (c' ++ t) H' → Slots ad K G' ρ σ c' → Hold G' (c' ++ t) H' → R σ G' a v t → Q v H'
  | .ex x ρ => ∀ d H' G' c', Step G c H G' c' H' → Slots ad K G' ρ σ c' → Hold G' c' H' → XRep ad K G' x d → W (.ref (ad x.cls)) (some d) σ H'
  | .bad => False
def rd (ad : Ad) (X : Cx) (W : WX) {α β : Type} (R : RRel α β) (m : Fr → Res α) : St → Hp → (β → Hp → Prop) → Prop := fun σ H Q => ∃ ρ G c, Slots ad X.K G ρ σ c ∧ Hold G c H ∧ Aft ad X.K W σ R G c H Q (m ρ)
def RelP (ad : Ad) (K : PySem.W.Frag) : RRel PV V := fun _ G p v t => Rep ad K G p v t
def RelL (ad : Ad) (K : PySem.W.Frag) : RRel (List PV) (List V) := fun _ G p v t => RepL ad K G p v t
/-- an operand stands as v -/
def OVal (ad : Ad) (K : PySem.W.Frag) (σ : St) (G : Hp) : OV → V → Prop
  | .vw i, v => σ[i]? = some (some v)
  | .vl p, v => Rep ad K G p v []
  | .vi i k, v => ∃ a vs, σ[i]? = some (some (.ref a)) ∧ G a = some (.tup vs) ∧ vs[k]? = some v
def RelO (ad : Ad) (K : PySem.W.Frag) : RRel OV V := fun σ G o v t => t = [] ∧ OVal ad K σ G o v
inductive OVals (ad : Ad) (K : PySem.W.Frag) (σ : St) (G : Hp) : List OV → List V → Prop
  | nil : OVals ad K σ G [] []
  | cons {o : OV} {os : List OV} {v : V} {vs : List V} : OVal ad K σ G o v → OVals ad K σ G os vs → OVals ad K σ G (o :: os) (v :: vs)
def RelOs (ad : Ad) (K : PySem.W.Frag) : RRel (List OV) (List V) := fun σ G o v t => t = [] ∧ OVals ad K σ G o v
def RelB : RRel Bool Bool := fun _ _ b b' t => t = [] ∧ b = b'
theorem OVal.mono {σ : St} (s : Sub G G') {o : OV} {v : V} (h : OVal ad K σ G o v) : OVal ad K σ G' o v := by
  cases o with
  | vw i => exact h
  | vl p => exact Rep.mono s h
  | vi i k =>
    obtain ⟨a, vs, e1, e2, e3⟩ := h
    exact ⟨a, vs, e1, s _ _ e2, e3⟩
theorem OVals.mono {σ : St} (s : Sub G G') : ∀ {o : List OV} {v : List V}, OVals ad K σ G o v → OVals ad K σ G' o v
  | _, _, .nil => .nil
  | _, _, .cons r t => .cons (r.mono s) (OVals.mono s t)

section
variable {W : WX} {σ : St} {α β γ δ : Type} {R : RRel α β} {R2 : RRel γ δ} {c c1 : List Cell} {Q : δ → Hp → Prop} {P : β → Hp → Prop}
/-- one after the other -/
theorem Aft.seq {r : Res α} {f : α → Fr → Res γ} (h : Aft ad K W σ R2 G c H Q (r.bind f))
    (k : ∀ a ρ v H1 G1 c1 t, Step G c H G1 (c1 ++ t) H1 → Slots ad K G1 ρ σ c1 → Hold G1 (c1 ++ t) H1 → R σ G1 a v t → Aft ad K W σ R2 G c H Q (f a ρ) → P v H1) : Aft ad K W σ R G c H P r := by
  cases r with
  | ok a ρ => exact fun v H' G' c' t s sl hh hr => k a ρ v H' G' c' t s sl hh hr h
  | ex x ρ => exact h
  | bad => exact h
theorem Aft.go {r : Res γ} (h : Aft ad K W σ R2 G c H Q r) (s : Step G c H G1 c1 H1) (h1 : Hold G1 c1 H1) : Aft ad K W σ R2 G1 c1 H1 Q r := by
  cases r with
  | ok a ρ => exact fun v H' G' c' t s2 sl hh hr => h v H' G' c' t (s.trans s2 h1) sl hh hr
  | ex x ρ => exact fun d H' G' c' s2 sl hh hr => h d H' G' c' (s.trans s2 h1) sl hh hr
  | bad => exact h
theorem Aft.go0 {r : Res γ} (h : Aft ad K W σ R2 G c H Q r) (s : Step G c H G1 (c1 ++ []) H1) (h1 : Hold G1 (c1 ++ []) H1) : Aft ad K W σ R2 G1 c1 H1 Q r := by
  rw [List.append_nil] at s h1
  exact h.go s h1
theorem perm_t {c t t2 : List Cell} : ((c ++ t2) ++ t).Perm (c ++ (t ++ t2)) := by
  rw [List.append_assoc]
  exact List.perm_append_comm.append_left c
/-- .. beside the cells t -/
theorem Aft.goT {t : List Cell} {R3 : RRel γ δ} {Q3 : δ → Hp → Prop} {r : Res γ} (h : Aft ad K W σ R2 G c H Q r) (s : Step G c H G1 (c1 ++ t) H1) (h1 : Hold G1 (c1 ++ t) H1)
    (k : ∀ a v G2 H2 c2 t2, Sub G1 G2 → Step G c H G2 (c2 ++ (t ++ t2)) H2 → Hold G2 (c2 ++ (t ++ t2)) H2 → R3 σ G2 a v t2 → (∀ ρ, r = .ok a ρ → Slots ad K G2 ρ σ c2 → (∀ w t', R2 σ G2 a w t' → Step G c H G2 (c2 ++ t') H2 → Hold G2 (c2 ++ t') H2 → Q w H2) → Q3 v H2)) : Aft ad K W σ R3 G1 c1 H1 Q3 r := by
  cases r with
  | ok a ρ =>
    intro v H' G' c' t2 s2 sl hh hr
    exact k a v G' H' c' t2 s2.fz ((s.frame s2 h1).perm (List.Perm.refl _) perm_t) ((h1.frame s2 hh).perm perm_t) hr ρ rfl sl fun w t' hw s' h' => h w H' G' c' t' s' sl h' hw
  | ex x ρ => exact fun d H' G' c' s2 sl hh hr => h d H' G' c' ((s.frame s2 h1).less fun z hz => List.mem_append_left _ hz) sl hh hr
  | bad => exact h
end

theorem _root_.L2.PE.imp {X : Cx} {e : Expr} {t t' : TE} (h : PE X e t) (i : ∀ σ H Q, t' σ H Q → t σ H Q) : PE X e t' := ⟨fun pins s σ H Q I hw => h.run pins s σ H Q I (i σ H Q hw)⟩
theorem _root_.L2.PT.imp {X : Cx} {e : Expr} {t t' : TT} (h : PT X e t) (i : ∀ σ H Q, t' σ H Q → t σ H Q) : PT X e t' := ⟨fun pins s σ H Q I hw => h.run pins s σ H Q I (i σ H Q hw)⟩
theorem _root_.L2.PA.imp {X : Cx} {e : List Expr} {t t' : TA} (h : PA X e t) (i : ∀ σ H Q, t' σ H Q → t σ H Q) : PA X e t' := ⟨fun pos pins s σ H Q I hw => h.run pos pins s σ H Q I (i σ H Q hw)⟩

/-! ### expressions -/
abbrev SE (ad : Ad) (X : Cx) (W : WX) (e : Expr) (m : Fr → Res PV) : Prop := PE X e (rd ad X W (RelP ad X.K) m)
abbrev SO (ad : Ad) (X : Cx) (W : WX) (e : Expr) (m : Fr → Res OV) : Prop := PE X e (rd ad X W (RelO ad X.K) m)
abbrev ST (ad : Ad) (X : Cx) (W : WX) (e : Expr) (m : Fr → Res Bool) : Prop := PT X e (rd ad X W RelB m)
abbrev SOs (ad : Ad) (X : Cx) (W : WX) (e : List Expr) (m : Fr → Res (List OV)) : Prop := PA X e (rd ad X W (RelOs ad X.K) m)
abbrev SLs (ad : Ad) (X : Cx) (W : WX) (e : List Expr) (m : Fr → Res (List PV)) : Prop := PA X e (rd ad X W (RelL ad X.K) m)
section
variable {X : Cx} {W : WX} {cf : Cf} {pos : Pos}
/-- a value that is written -/
theorem aft_val {σ : St} {c : List Cell} {Q : VK} {p : PV} {v : V} {ρ : Fr} (h : Aft ad X.K W σ (RelP ad X.K) G c H Q (.ok p ρ)) (sl : Slots ad X.K G ρ σ c) (hh : Hold G c H) (r : Rep ad X.K G p v []) : Q v H :=
  h v H G c [] (by rw [List.append_nil]; exact Step.refl) sl (by rw [List.append_nil]; exact hh) r
theorem se_cst {e : Expr} {p : PV} {v : V} (h : PE X e (tC v)) (r : ∀ G, Rep ad X.K G p v []) : SE ad X W e (evE cf (.cst p)) := h.imp fun σ H Q hq => by
  obtain ⟨ρ, G, c, sl, hh, ha⟩ := hq
  exact aft_val (W := W) (by simpa only [evE] using ha) sl hh (r G)
theorem slot_frz {σ : St} {ρ : Fr} {c : List Cell} {i : Nat} {p : PV} (sl : Slots ad K G ρ σ c) (hh : Hold G c H) (e : ρ.at i = some p) : ∃ v G' c', σ[i]? = some (some v) ∧ Step G c H G' c' H ∧ Hold G' c' H ∧ Slots ad K G' (ρ.set i (some p.frz)) σ c' ∧ Rep ad K G' p.frz v [] := by
  obtain ⟨v, d, r, e1, e2, e3, e4⟩ := sl.out e
  have h1 : Hold G (r ++ d) H := hh.perm (e4.trans List.perm_append_comm)
  have s1 : Step G c H G (r ++ d) H := (Step.refl (c := c)).perm (List.Perm.refl _) (e4.trans List.perm_append_comm)
  have r1 := e2.absorb h1
  obtain ⟨c', e5, e6⟩ := (e3.mono (addc_sub h1.right)).tell (i := i) at_set_none (by simpa using at_lt e) e1 r1
  rw [set_set_none] at e5
  exact ⟨v, addc G d, c', e1, (s1.absorb h1).perm (List.Perm.refl _) e6.symm, h1.absorb.perm e6.symm, e5, r1⟩
theorem se_loc {x : Str} {i : Nat} (h : PE X (.Name x pos) (tVar i)) : SE ad X W (.Name x pos) (evE cf (.loc i)) := h.imp fun σ H Q hq => by
  obtain ⟨ρ, G, c, sl, hh, ha⟩ := hq
  simp only [evE] at ha
  cases e : ρ.at i with
  | none => rw [e] at ha; exact ha.elim
  | some p =>
    rw [e] at ha
    obtain ⟨v, G', c', e1, s, h2, sl2, r⟩ := slot_frz sl hh e
    exact ⟨v, e1, ha v H G' c' [] (by rw [List.append_nil]; exact s) sl2 (by rw [List.append_nil]; exact h2) r⟩
theorem se_mov {x : Str} {i : Nat} (h : PE X (.Name x pos) (tVar i)) : SE ad X W (.Name x pos) (evE cf (.mov i)) := h.imp fun σ H Q hq => by
  obtain ⟨ρ, G, c, sl, hh, ha⟩ := hq
  simp only [evE] at ha
  cases e : ρ.at i with
  | none => rw [e] at ha; exact ha.elim
  | some p =>
    rw [e] at ha
    obtain ⟨v, d, r, e1, e2, e3, e4⟩ := sl.out e
    exact ⟨v, e1, ha v H G r d ((Step.refl (c := c)).perm (List.Perm.refl _) (e4.trans List.perm_append_comm)) e3 (hh.perm (e4.trans List.perm_append_comm)) e2⟩
/-- an operand that is read by its name -/
theorem so_loc {x : Str} {i : Nat} {run : Fr → Res PV} (h : PE X (.Name x pos) (tVar i)) : SO ad X W (.Name x pos) (opnd (.loc i) run) := h.imp fun σ H Q hq => by
  obtain ⟨ρ, G, c, sl, hh, ha⟩ := hq
  simp only [opnd] at ha
  cases e : ρ.at i with
  | none => rw [e] at ha; exact ha.elim
  | some p =>
    rw [e] at ha
    obtain ⟨v, d, r, e1, e2, e3, e4⟩ := sl.out e
    exact ⟨v, e1, ha v H G c [] (by rw [List.append_nil]; exact Step.refl) sl (by rw [List.append_nil]; exact hh) ⟨rfl, e1⟩⟩
def isLoc : IE → Bool
  | .loc _ => true
  | .it _ _ => true
  | _ => false
theorem opnd_val {ie : IE} {run : Fr → Res PV} (h : isLoc ie = false) (ρ : Fr) : opnd ie run ρ = (run ρ).bind fun p ρ' => .ok (.vl p.frz) ρ' := by
  cases ie <;> first
    | rfl
    | cases h
theorem so_val {e : Expr} {ie : IE} {run : Fr → Res PV} (hl : isLoc ie = false) (h : SE ad X W e run) : SO ad X W e (opnd ie run) := h.imp fun σ H Q hq => by
  obtain ⟨ρ, G, c, sl, hh, ha⟩ := hq
  rw [opnd_val hl] at ha
  refine ⟨ρ, G, c, sl, hh, ha.seq fun p ρ1 v H1 G1 c1 t s sl1 h1 r k => ?_⟩
  exact k v H1 (addc G1 t) c1 [] (by rw [List.append_nil]; exact s.absorb h1) (sl1.mono (addc_sub h1.right)) (by rw [List.append_nil]; exact h1.absorb) ⟨rfl, Rep.absorb h1 r⟩
theorem OVal.vw {σ : St} {ρ : Fr} {c : List Cell} {o : OV} {v : V} {p : PV} (h : OVal ad K σ G o v) (sl : Slots ad K G ρ σ c) (e : rsv ρ o = some p) : Vw ad K G c p v := by
  cases o with
  | vw i =>
    obtain ⟨w, d, r, e1, e2, e3, e4⟩ := sl.out (show ρ.at i = some p from e)
    have e5 : σ[i]? = some (some v) := h
    rw [e1] at e5
    cases e5
    exact ⟨d, e2, fun z hz => e4.symm.mem_iff.mp (List.mem_append_left _ hz)⟩
  | vl q =>
    cases e
    exact Rep.vw h
  | vi i k =>
    obtain ⟨a, vs, h1, h2, h3⟩ := h
    simp only [rsv] at e
    split at e
    · rename_i xs ex
      obtain ⟨w, d, r, e1, e2, e3, e4⟩ := sl.out ex
      rw [h1] at e1
      cases e1
      cases e2 with
      | tup g rl =>
        rw [h2] at g
        cases g
        obtain ⟨w, d', f1, f2, f3⟩ := rl.get e
        rw [h3] at f1
        cases f1
        exact ⟨d', f2, fun z hz => e4.symm.mem_iff.mp (List.mem_append_left _ (f3 z hz))⟩
    · cases e
theorem OVals.vw {σ : St} {ρ : Fr} {c : List Cell} (sl : Slots ad K G ρ σ c) : ∀ {os : List OV} {vs : List V} {ps : List PV}, OVals ad K σ G os vs → rsvL ρ os = some ps → VwL ad K G c ps vs
  | _, _, _, .nil, e => by cases e; exact .nil
  | _, _, _, .cons (o := o) (os := os) r t, e => by
    unfold rsvL at e
    cases e1 : rsv ρ o with
    | none => rw [e1] at e; cases e
    | some p =>
      cases e2 : rsvL ρ os with
      | none => rw [e1, e2] at e; cases e
      | some ps =>
        rw [e1, e2] at e
        cases e
        exact .cons (r.vw sl e1) (OVals.vw sl t e2)
/-- the operands are there: the operation -/
theorem fin_op {f : Op} {σ : St} {ρ : Fr} {c : List Cell} {os : List OV} {vs : List V} {Q : VK} (h : Aft ad X.K W σ (RelP ad X.K) G c H Q (match rsvL ρ os with
    | some ps => (match opN f ps with
      | some r => .ok r ρ
      | none => .bad)
    | none => .bad)) (sl : Slots ad X.K G ρ σ c) (hh : Hold G c H) (ho : OVals ad X.K σ G os vs) : RN ad X.K (opN f) vs H Q := by
  cases e1 : rsvL ρ os with
  | none => rw [e1] at h; exact h.elim
  | some ps =>
    rw [e1] at h
    dsimp only at h
    cases e2 : opN f ps with
    | none => rw [e2] at h; exact h.elim
    | some r =>
      rw [e2] at h
      exact ⟨ps, G, c, r, ho.vw sl e1, hh, e2, fun v H' G' t s h' hr => h v H' G' c t s (sl.mono s.fz) h' hr⟩
theorem rd_op1 {f : Op} {a : IE} {σ : St} {H : Hp} {Q : VK} (h : rd ad X W (RelP ad X.K) (evE cf (.op f [a])) σ H Q) : rd ad X W (RelO ad X.K) (opnd a (evE cf a)) σ H fun x H1 => RN ad X.K (opN f) [x] H1 Q := by
  obtain ⟨ρ, G, c, sl, hh, ha⟩ := h
  simp only [evE, evO] at ha
  refine ⟨ρ, G, c, sl, hh, ?_⟩
  cases e : opnd a (evE cf a) ρ with
  | bad => rw [e] at ha; exact ha
  | ex x ρ1 => rw [e] at ha; exact ha
  | ok o ρ1 =>
    rw [e] at ha
    simp only [Res.bind] at ha
    intro v H1 G1 c1 t s sl1 h1 ⟨et, hv⟩
    subst et
    have ha1 := ha.go0 s h1
    rw [List.append_nil] at h1
    exact fin_op ha1 sl1 h1 (.cons hv .nil)
theorem rd_op2 {f : Op} {a b : IE} {σ : St} {H : Hp} {Q : VK} (h : rd ad X W (RelP ad X.K) (evE cf (.op f [a, b])) σ H Q) :
    rd ad X W (RelO ad X.K) (opnd a (evE cf a)) σ H fun x H1 => rd ad X W (RelO ad X.K) (opnd b (evE cf b)) σ H1 fun y H2 => RN ad X.K (opN f) [x, y] H2 Q := by
  obtain ⟨ρ, G, c, sl, hh, ha⟩ := h
  simp only [evE, evO] at ha
  refine ⟨ρ, G, c, sl, hh, ?_⟩
  cases e : opnd a (evE cf a) ρ with
  | bad => rw [e] at ha; exact ha
  | ex x ρ1 => rw [e] at ha; exact ha
  | ok o ρ1 =>
    rw [e] at ha
    simp only [Res.bind] at ha
    intro v H1 G1 c1 t s sl1 h1 ⟨et, hv⟩
    subst et
    have ha1 := ha.go0 s h1
    rw [List.append_nil] at h1
    refine ⟨ρ1, G1, c1, sl1, h1, ?_⟩
    cases e2 : opnd b (evE cf b) ρ1 with
    | bad => rw [e2] at ha1; exact ha1
    | ex x ρ2 => rw [e2] at ha1; exact ha1
    | ok o2 ρ2 =>
      rw [e2] at ha1
      intro v2 H2 G2 c2 t2 s2 sl2 h2 ⟨et2, hv2⟩
      subst et2
      have ha2 := ha1.go0 s2 h2
      rw [List.append_nil] at h2
      exact fin_op ha2 sl2 h2 (.cons (hv.mono s2.fz) (.cons hv2 .nil))
theorem nilL {c : List Cell} {G H G' H' : Hp} {c' : List Cell} (s : Step G c H G' (c' ++ []) H') : Step G c H G' c' H' := by rwa [List.append_nil] at s
theorem nilH {c : List Cell} (h : Hold G (c ++ []) H) : Hold G c H := by rwa [List.append_nil] at h
theorem toL {c : List Cell} {G H G' H' : Hp} {c' : List Cell} (s : Step G c H G' c' H') : Step G c H G' (c' ++ []) H' := by rwa [List.append_nil]
theorem toH {c : List Cell} (h : Hold G c H) : Hold G (c ++ []) H := by rwa [List.append_nil]
theorem rd_os_nil {σ : St} {H : Hp} {Q : List V → Hp → Prop} (h : rd ad X W (RelOs ad X.K) (evO cf []) σ H Q) : Q [] H := by
  obtain ⟨ρ, G, c, sl, hh, ha⟩ := h
  simp only [evO] at ha
  exact ha [] H G c [] (toL Step.refl) sl (toH hh) ⟨rfl, .nil⟩
theorem rd_os_cons {a : IE} {es : List IE} {σ : St} {H : Hp} {Q : List V → Hp → Prop} (h : rd ad X W (RelOs ad X.K) (evO cf (a :: es)) σ H Q) :
    rd ad X W (RelO ad X.K) (opnd a (evE cf a)) σ H fun x H1 => rd ad X W (RelOs ad X.K) (evO cf es) σ H1 fun xs H2 => Q (x :: xs) H2 := by
  obtain ⟨ρ, G, c, sl, hh, ha⟩ := h
  simp only [evO] at ha
  refine ⟨ρ, G, c, sl, hh, ha.seq fun o ρ1 v H1 G1 c1 t s sl1 h1 ⟨et, hv⟩ k => ?_⟩
  subst et
  have k1 := k.go0 s h1
  refine ⟨ρ1, G1, c1, sl1, nilH h1, k1.seq fun os ρ2 vs H2 G2 c2 t2 s2 sl2 h2 ⟨et2, hv2⟩ k2 => ?_⟩
  subst et2
  exact k2 (v :: vs) H2 G2 c2 [] s2 sl2 h2 ⟨rfl, .cons (hv.mono s2.fz) hv2⟩
theorem sos_nil : SOs ad X W [] (evO cf []) := pa_nil.imp fun _ _ _ h => rd_os_nil h
theorem sos_cons {e : Expr} {es : List Expr} {a : IE} {as : List IE} (ha : SO ad X W e (opnd a (evE cf a))) (hs : SOs ad X W es (evO cf as)) (hst : starEach (e :: es) X.env = (false, eval e X.env) :: starEach es X.env) : SOs ad X W (e :: es) (evO cf (a :: as)) :=
  (pa_cons ha hs hst).imp fun _ _ _ h => rd_os_cons h
theorem rd_op {f : Op} {es : List IE} {σ : St} {H : Hp} {Q : VK} (h : rd ad X W (RelP ad X.K) (evE cf (.op f es)) σ H Q) : rd ad X W (RelOs ad X.K) (evO cf es) σ H fun xs H1 => RN ad X.K (opN f) xs H1 Q := by
  obtain ⟨ρ, G, c, sl, hh, ha⟩ := h
  simp only [evE] at ha
  refine ⟨ρ, G, c, sl, hh, ha.seq fun o ρ1 v H1 G1 c1 t s sl1 h1 ⟨et, hv⟩ k => ?_⟩
  subst et
  exact fin_op (k.go0 s h1) sl1 (nilH h1) hv
theorem rd_ls_nil {σ : St} {H : Hp} {Q : List V → Hp → Prop} (h : rd ad X W (RelL ad X.K) (evL cf []) σ H Q) : Q [] H := by
  obtain ⟨ρ, G, c, sl, hh, ha⟩ := h
  simp only [evL] at ha
  exact ha [] H G c [] (toL Step.refl) sl (toH hh) .nil
theorem rd_ls_cons {a : IE} {es : List IE} {σ : St} {H : Hp} {Q : List V → Hp → Prop} (h : rd ad X W (RelL ad X.K) (evL cf (a :: es)) σ H Q) :
    rd ad X W (RelP ad X.K) (evE cf a) σ H fun x H1 => rd ad X W (RelL ad X.K) (evL cf es) σ H1 fun xs H2 => Q (x :: xs) H2 := by
  obtain ⟨ρ, G, c, sl, hh, ha⟩ := h
  simp only [evL] at ha
  refine ⟨ρ, G, c, sl, hh, ha.seq fun p ρ1 v H1 G1 c1 t s sl1 h1 hv k => ?_⟩
  refine ⟨ρ1, G1, c1, sl1, h1.left, ?_⟩
  have hv' : Rep ad X.K G1 p v t := hv
  cases e : evL cf es ρ1 with
  | bad => rw [e] at k; exact k
  | ex x ρ2 =>
    rw [e] at k
    exact fun d H2 G2 c2 s2 sl2 h2 hx => k d H2 G2 c2 ((s.frame s2 h1).less fun z hz => List.mem_append_left _ hz) sl2 h2 hx
  | ok ps ρ2 =>
    rw [e] at k
    intro vs H2 G2 c2 t2 s2 sl2 h2 hvs
    exact k (v :: vs) H2 G2 c2 (t ++ t2) ((s.frame s2 h1).perm (List.Perm.refl _) perm_t) sl2 ((h1.frame s2 h2).perm perm_t) (.cons (hv'.mono s2.fz) hvs)
theorem sls_nil : SLs ad X W [] (evL cf []) := pa_nil.imp fun _ _ _ h => rd_ls_nil h
theorem sls_cons {e : Expr} {es : List Expr} {a : IE} {as : List IE} (ha : SE ad X W e (evE cf a)) (hs : SLs ad X W es (evL cf as)) (hst : starEach (e :: es) X.env = (false, eval e X.env) :: starEach es X.env) : SLs ad X W (e :: es) (evL cf (a :: as)) :=
  (pa_cons ha hs hst).imp fun _ _ _ h => rd_ls_cons h
theorem RepL.absorb {c t : List Cell} {p : List PV} {v : List V} (h : Hold G (c ++ t) H) (r : RepL ad K G p v t) : RepL ad K (addc G t) (PV.frzL p) v [] := r.frz (addc_sub h.right) (addc_at h.right)
theorem se_lst {es : List Expr} {as : List IE} (h : SLs ad X W es (evL cf as)) : SE ad X W (.List es pos) (evE cf (.lst as)) := (pe_lst h).imp fun σ H Q hq => by
  obtain ⟨ρ, G, c, sl, hh, ha⟩ := hq
  simp only [evE] at ha
  refine ⟨ρ, G, c, sl, hh, ha.seq fun ps ρ1 vs H1 G1 c1 t s sl1 h1 hv k => ?_⟩
  have hv' : RepL ad X.K G1 ps vs t := hv
  split at k
  · rename_i hz
    refine ⟨by rw [← hv'.length]; exact okS_le hz, fun p hp => ?_⟩
    have h1' := h1.absorb
    obtain ⟨q1, q2⟩ := h1'.newO hp (.lst vs)
    exact k (.ref p) _ _ c1 [(p, .lst vs)] ((s.absorb h1).trans q2 h1') (sl1.mono (addc_sub h1.right)) q1 (.lstO (cs := []) (RepL.absorb h1 hv'))
  · exact k.elim
theorem se_tup {es : List Expr} {as : List IE} {n : Nat} (h : SLs ad X W es (evL cf as)) : SE ad X W (.Tuple es n pos) (evE cf (.tup as)) := (pe_tup h).imp fun σ H Q hq => by
  obtain ⟨ρ, G, c, sl, hh, ha⟩ := hq
  simp only [evE] at ha
  refine ⟨ρ, G, c, sl, hh, ha.seq fun ps ρ1 vs H1 G1 c1 t s sl1 h1 hv k => ?_⟩
  have hv' : RepL ad X.K G1 ps vs t := hv
  split at k
  · rename_i hz
    refine ⟨by rw [← hv'.length]; exact okS_le hz, fun p hp => ?_⟩
    have h1' := h1.absorb
    obtain ⟨q1, q2⟩ := h1'.newF hp (.tup vs)
    exact k (.ref p) _ (upd (addc G1 t) p (.tup vs)) c1 [] (toL ((s.absorb h1).trans q2 h1')) ((sl1.mono (addc_sub h1.right)).mono q2.fz) (toH q1) (.tup upd_same ((RepL.absorb h1 hv').mono q2.fz))
  · exact k.elim
/-! and, or, if-expressions -/
theorem asB_seq {σ : St} {c : List Cell} {Q : VK} {r : Res PV} {f : Bool → Fr → Res PV} {P : VK} (h : Aft ad X.K W σ (RelP ad X.K) G c H Q ((asB r).bind f))
    (k : ∀ b ρ H1 G1 c1, Step G c H G1 c1 H1 → Slots ad X.K G1 ρ σ c1 → Hold G1 c1 H1 → Aft ad X.K W σ (RelP ad X.K) G1 c1 H1 Q (f b ρ) → P (.bl b) H1) : Aft ad X.K W σ (RelP ad X.K) G c H P r := by
  cases r with
  | bad => exact h
  | ex x ρ => exact h
  | ok p ρ =>
    intro v H1 G1 c1 t s sl1 h1 hv
    have hv' : Rep ad X.K G1 p v t := hv
    cases p with
    | bl b =>
      cases hv'
      have h' : Aft ad X.K W σ (RelP ad X.K) G c H Q (f b ρ) := h
      exact k b ρ H1 G1 c1 (nilL s) sl1 (nilH h1) (h'.go0 s h1)
    | _ => exact h.elim
theorem se_and {a b : Expr} {rest : List Expr} {x y : IE} (ha : SE ad X W a (evE cf x)) (hb : SE ad X W (.BoolOp .And (b :: rest) pos) (evE cf y)) : SE ad X W (.BoolOp .And (a :: b :: rest) pos) (evE cf (.and x y)) := (pe_and ha hb).imp fun σ H Q hq => by
  obtain ⟨ρ, G, c, sl, hh, h⟩ := hq
  simp only [evE] at h
  refine ⟨ρ, G, c, sl, hh, asB_seq h fun b ρ1 H1 G1 c1 s sl1 h1 k => ⟨b, rfl, ?_⟩⟩
  cases b with
  | true =>
    rw [if_pos rfl] at k ⊢
    exact ⟨ρ1, G1, c1, sl1, h1, k⟩
  | false =>
    rw [if_neg Bool.false_ne_true] at k ⊢
    exact aft_val k sl1 h1 (.bl false)
theorem se_or {a b : Expr} {rest : List Expr} {x y : IE} (ha : SE ad X W a (evE cf x)) (hb : SE ad X W (.BoolOp .Or (b :: rest) pos) (evE cf y)) : SE ad X W (.BoolOp .Or (a :: b :: rest) pos) (evE cf (.or x y)) := (pe_or ha hb).imp fun σ H Q hq => by
  obtain ⟨ρ, G, c, sl, hh, h⟩ := hq
  simp only [evE] at h
  refine ⟨ρ, G, c, sl, hh, asB_seq h fun b ρ1 H1 G1 c1 s sl1 h1 k => ⟨b, rfl, ?_⟩⟩
  cases b with
  | true =>
    rw [if_pos rfl] at k ⊢
    exact aft_val k sl1 h1 (.bl true)
  | false =>
    rw [if_neg Bool.false_ne_true] at k ⊢
    exact ⟨ρ1, G1, c1, sl1, h1, k⟩
/-- a test ahead of something -/
theorem test_seq {α β : Type} {R : RRel α β} {σ : St} {c : List Cell} {Q : β → Hp → Prop} {r : Res Bool} {f : Bool → Fr → Res α} {P : Bool → Hp → Prop} (h : Aft ad X.K W σ R G c H Q (r.bind f))
    (k : ∀ b ρ H1 G1 c1, Step G c H G1 c1 H1 → Slots ad X.K G1 ρ σ c1 → Hold G1 c1 H1 → Aft ad X.K W σ R G1 c1 H1 Q (f b ρ) → P b H1) : Aft ad X.K W σ RelB G c H P r := by
  refine h.seq fun b ρ1 b' H1 G1 c1 t s sl1 h1 ⟨et, hv⟩ k' => ?_
  subst et
  subst hv
  exact k b ρ1 H1 G1 c1 (nilL s) sl1 (nilH h1) (k'.go0 s h1)
theorem se_ite {t a b : Expr} {w x y : IE} (ht : ST ad X W t (evT cf w (evE cf w))) (ha : SE ad X W a (evE cf x)) (hb : SE ad X W b (evE cf y)) : SE ad X W (.IfExp t a b pos) (evE cf (.ite w x y)) := (pe_ifExp ht ha hb).imp fun σ H Q hq => by
  obtain ⟨ρ, G, c, sl, hh, h⟩ := hq
  simp only [evE] at h
  refine ⟨ρ, G, c, sl, hh, test_seq h fun b ρ1 H1 G1 c1 s sl1 h1 k => ?_⟩
  cases b with
  | true =>
    rw [if_pos rfl] at k ⊢
    exact ⟨ρ1, G1, c1, sl1, h1, k⟩
  | false =>
    rw [if_neg Bool.false_ne_true] at k ⊢
    exact ⟨ρ1, G1, c1, sl1, h1, k⟩
/-! tests -/
abbrev SW (ad : Ad) (X : Cx) (W : WX) (e : Expr) (m : Fr → Res Bool) : Prop := PW X e (rd ad X W RelB m)
theorem _root_.L2.PW.imp {X : Cx} {e : Expr} {t t' : TT} (h : PW X e t) (i : ∀ σ H Q, t' σ H Q → t σ H Q) : PW X e t' := ⟨fun wh pins s σ H Q I hw => h.run wh pins s σ H Q I (i σ H Q hw)⟩
theorem aft_b {σ : St} {c : List Cell} {Q : Bool → Hp → Prop} {b : Bool} {ρ : Fr} (h : Aft ad X.K W σ RelB G c H Q (.ok b ρ)) (sl : Slots ad X.K G ρ σ c) (hh : Hold G c H) : Q b H :=
  h b H G c [] (toL Step.refl) sl (toH hh) ⟨rfl, rfl⟩
theorem sw_and {a b : Expr} {rest : List Expr} {x y : IE} {run : Fr → Res PV} (ha : ST ad X W a (evT cf x (evE cf x))) (hb : SW ad X W (.BoolOp .And (b :: rest) pos) (evT cf y (evE cf y))) : SW ad X W (.BoolOp .And (a :: b :: rest) pos) (evT cf (.and x y) run) := (pw_and ha hb).imp fun σ H Q hq => by
  obtain ⟨ρ, G, c, sl, hh, h⟩ := hq
  simp only [evT] at h
  refine ⟨ρ, G, c, sl, hh, test_seq h fun b ρ1 H1 G1 c1 s sl1 h1 k => ?_⟩
  cases b with
  | true =>
    rw [if_pos rfl] at k ⊢
    exact ⟨ρ1, G1, c1, sl1, h1, k⟩
  | false =>
    rw [if_neg Bool.false_ne_true] at k ⊢
    exact aft_b k sl1 h1
theorem sw_or {a b : Expr} {rest : List Expr} {x y : IE} {run : Fr → Res PV} (ha : ST ad X W a (evT cf x (evE cf x))) (hb : SW ad X W (.BoolOp .Or (b :: rest) pos) (evT cf y (evE cf y))) : SW ad X W (.BoolOp .Or (a :: b :: rest) pos) (evT cf (.or x y) run) := (pw_or ha hb).imp fun σ H Q hq => by
  obtain ⟨ρ, G, c, sl, hh, h⟩ := hq
  simp only [evT] at h
  refine ⟨ρ, G, c, sl, hh, test_seq h fun b ρ1 H1 G1 c1 s sl1 h1 k => ?_⟩
  cases b with
  | true =>
    rw [if_pos rfl] at k ⊢
    exact aft_b k sl1 h1
  | false =>
    rw [if_neg Bool.false_ne_true] at k ⊢
    exact ⟨ρ1, G1, c1, sl1, h1, k⟩
theorem st_not {a : Expr} {x : IE} {run : Fr → Res PV} (ha : ST ad X W a (evT cf x (evE cf x))) : ST ad X W (.UnaryOp .Not a pos) (evT cf (.op .not [x]) run) := (pt_not ha).imp fun σ H Q hq => by
  obtain ⟨ρ, G, c, sl, hh, h⟩ := hq
  simp only [evT] at h
  exact ⟨ρ, G, c, sl, hh, test_seq h fun b ρ1 H1 G1 c1 s sl1 h1 k => aft_b k sl1 h1⟩
/-- what is a bool already -/
theorem rd_asB {σ : St} {H : Hp} {Q : Bool → Hp → Prop} {run : Fr → Res PV} (h : rd ad X W RelB (fun ρ => asB (run ρ)) σ H Q) : rd ad X W (RelP ad X.K) run σ H fun x H1 => ∃ k, x = .bl k ∧ Q k H1 := by
  obtain ⟨ρ, G, c, sl, hh, ha⟩ := h
  refine ⟨ρ, G, c, sl, hh, ?_⟩
  dsimp only at ha
  cases e : run ρ with
  | bad => rw [e] at ha; exact ha
  | ex x ρ1 => rw [e] at ha; exact ha
  | ok p ρ1 =>
    rw [e] at ha
    intro v H1 G1 c1 t s sl1 h1 hv
    have hv' : Rep ad X.K G1 p v t := hv
    cases p with
    | bl b =>
      cases hv'
      have ha' : Aft ad X.K W σ RelB G c H Q (.ok b ρ1) := ha
      exact ⟨b, rfl, ha' b H1 G1 c1 [] s sl1 h1 ⟨rfl, rfl⟩⟩
    | _ => exact ha.elim
theorem rd_truth {σ : St} {H : Hp} {Q : Bool → Hp → Prop} {ie : IE} {run : Fr → Res PV} (h : rd ad X W RelB (fun ρ => (opnd ie run ρ).bind fun o ρ1 => match rsv ρ1 o with
    | some p => (match truth p with
      | some k => .ok k ρ1
      | none => .bad)
    | none => .bad) σ H Q) : rd ad X W (RelO ad X.K) (opnd ie run) σ H fun x H1 => ∃ k, TruV X.K x H1 k ∧ Q k H1 := by
  obtain ⟨ρ, G, c, sl, hh, ha⟩ := h
  refine ⟨ρ, G, c, sl, hh, Aft.seq ha fun o ρ1 v H1 G1 c1 t s sl1 h1 ⟨et, hv⟩ k => ?_⟩
  subst et
  have k1 := k.go0 s h1
  have h1' := nilH h1
  cases e1 : rsv ρ1 o with
  | none => rw [e1] at k1; exact k1.elim
  | some p =>
    rw [e1] at k1
    dsimp only at k1
    cases e2 : truth p with
    | none => rw [e2] at k1; exact k1.elim
    | some b =>
      rw [e2] at k1
      exact ⟨b, tru_N (hv.vw sl1 e1) h1' e2, aft_b k1 sl1 h1'⟩
end
end Y
end
section
set_option Elab.async false
set_option linter.all false
set_option maxRecDepth 100000
set_option maxHeartbeats 2000000
set_option autoImplicit false
/-! Y5: chains, slices, calls, what is walked, comprehensions. -/
namespace Y
open PySem L2
variable {ad : Ad} {K : PySem.W.Frag} {G G' G1 G2 H H' H1 H2 : Hp}
section
variable {X : Cx} {W : WX} {cf : Cf} {pos : Pos}
theorem Aft.calm {α β : Type} {R : RRel α β} {σ : St} {c : List Cell} {Q : β → Hp → Prop} {a : α} {ρ : Fr} {v : β} (h : Aft ad K W σ R G c H Q (.ok a ρ)) (sl : Slots ad K G ρ σ c) (hh : Hold G c H) (r : R σ G a v []) : Q v H :=
  h v H G c [] (toL Step.refl) sl (toH hh) r
/-- a op b op d -/
theorem rd_chain {f g : CmpOp} {x y z : IE} {σ : St} {H : Hp} {Q : VK} (hq : rd ad X W (RelP ad X.K) (evE cf (.chain f g x y z)) σ H Q) : tChain (fun x y H Q => RN ad X.K (opN (.cmp f)) [x, y] H Q) (fun x y H Q => RN ad X.K (opN (.cmp g)) [x, y] H Q) (rd ad X W (RelO ad X.K) (opnd x (evE cf x))) (rd ad X W (RelO ad X.K) (opnd y (evE cf y))) (rd ad X W (RelO ad X.K) (opnd z (evE cf z))) σ H Q := by
  obtain ⟨ρ, G, c, sl, hh, h⟩ := hq
  simp only [evE] at h
  refine ⟨ρ, G, c, sl, hh, h.seq fun o1 ρ1 v1 H1 G1 c1 t1 s1 sl1 h1 ⟨et1, hv1⟩ k1 => ?_⟩
  subst et1
  have k1' := k1.go0 s1 h1
  have h1' := nilH h1
  refine ⟨ρ1, G1, c1, sl1, h1', k1'.seq fun o2 ρ2 v2 H2 G2 c2 t2 s2 sl2 h2 ⟨et2, hv2⟩ k2 => ?_⟩
  subst et2
  have k2' := k2.go0 s2 h2
  have h2' := nilH h2
  have hv1' := hv1.mono s2.fz
  cases e1 : rsv ρ2 o1 with
  | none => rw [e1] at k2'; exact k2'.elim
  | some p =>
    cases e2 : rsv ρ2 o2 with
    | none => rw [e1, e2] at k2'; exact k2'.elim
    | some q =>
      rw [e1, e2] at k2'
      dsimp only at k2'
      cases e3 : cmpN f p q with
      | none => rw [e3] at k2'; exact k2'.elim
      | some b1 =>
        rw [e3] at k2'
        refine ⟨[p, q], G2, c2, .bl b1, .cons (hv1'.vw sl2 e1) (.cons (hv2.vw sl2 e2) .nil), h2', by simp only [opN, e3]; rfl, fun v3 H3 G3 t3 s3 h3 r3 => ?_⟩
        cases r3
        have k3 := k2'.go0 s3 h3
        have h3' := nilH h3
        have sl3 := sl2.mono s3.fz
        refine ⟨b1, rfl, ?_⟩
        cases b1 with
        | false =>
          rw [if_neg Bool.false_ne_true]
          exact k3.calm sl3 h3' (.bl false)
        | true =>
          rw [if_pos rfl]
          refine ⟨ρ2, G3, c2, sl3, h3', k3.seq fun o4 ρ4 v4 H4 G4 c4 t4 s4 sl4 h4 ⟨et4, hv4⟩ k4 => ?_⟩
          subst et4
          have k4' := k4.go0 s4 h4
          have h4' := nilH h4
          cases e4 : rsv ρ4 o2 with
          | none => rw [e4] at k4'; exact k4'.elim
          | some q' =>
            cases e5 : rsv ρ4 o4 with
            | none => rw [e4, e5] at k4'; exact k4'.elim
            | some r' =>
              rw [e4, e5] at k4'
              dsimp only at k4'
              cases e6 : cmpN g q' r' with
              | none => rw [e6] at k4'; exact k4'.elim
              | some b2 =>
                rw [e6] at k4'
                exact ⟨[q', r'], G4, c4, .bl b2, .cons (((hv2.mono s3.fz).mono s4.fz).vw sl4 e4) (.cons (hv4.vw sl4 e5) .nil), h4', by simp only [opN, e6]; rfl, fun v5 H5 G5 t5 s5 h5 r5 => k4' v5 H5 G5 c4 t5 s5 (sl4.mono s5.fz) h5 r5⟩
theorem se_chain {f g : CmpOp} {a b d : Expr} {x y z : IE} (hu : X.A.units + 65 < cLine) (ha : SO ad X W a (opnd x (evE cf x))) (hb : SO ad X W b (opnd y (evE cf y))) (hd : SO ad X W d (opnd z (evE cf z)))
    (hm : lastMarks [f, g] [b, d] = false) : SE ad X W (.Compare a [f, g] [b, d] pos) (evE cf (.chain f g x y z)) := (pe_chain (op_cmpN (ad := ad) hu f) (op_cmpN (ad := ad) hu g) ha hb hd hm).imp fun σ H Q hq => rd_chain hq
/-! displays that are read and thrown away -/
def DVal (ad : Ad) (K : PySem.W.Frag) (σ : St) (G : Hp) (t : Option Bool) (os : List OV) (v : V) : Prop := match t with
  | none => ∃ o, os = [o] ∧ OVal ad K σ G o v
  | some true => ∃ a vs, v = .ref a ∧ G a = some (.tup vs) ∧ OVals ad K σ G os vs
  | some false => ∃ a vs, v = .ref a ∧ G a = some (.lst vs) ∧ OVals ad K σ G os vs
def RelD (ad : Ad) (K : PySem.W.Frag) (t : Option Bool) : RRel (List OV) V := fun σ G os v c => c = [] ∧ DVal ad K σ G t os v
theorem DVal.mono {σ : St} {t : Option Bool} {os : List OV} {v : V} (s : Sub G G') (h : DVal ad K σ G t os v) : DVal ad K σ G' t os v := by
  cases t with
  | none => obtain ⟨o, e, h⟩ := h; exact ⟨o, e, h.mono s⟩
  | some b =>
    cases b with
    | true => obtain ⟨a, vs, e, g, h⟩ := h; exact ⟨a, vs, e, s _ _ g, h.mono s⟩
    | false => obtain ⟨a, vs, e, g, h⟩ := h; exact ⟨a, vs, e, s _ _ g, h.mono s⟩
theorem VwL.repL {c : List Cell} : ∀ {ps : List PV} {vs : List V}, VwL ad K G c ps vs → ∃ d, RepL ad K G ps vs d ∧ ∀ z ∈ d, z ∈ c
  | _, _, .nil => ⟨[], .nil, fun _ z => nomatch z⟩
  | _, _, .cons ⟨d, r, k⟩ t => by
    obtain ⟨d2, r2, k2⟩ := VwL.repL t
    exact ⟨d ++ d2, .cons r r2, fun z hz => (List.mem_append.mp hz).elim (k z) (k2 z)⟩
theorem OVals.length {σ : St} : ∀ {os : List OV} {vs : List V}, OVals ad K σ G os vs → os.length = vs.length
  | _, _, .nil => rfl
  | _, _, .cons _ t => by simp [OVals.length t]
theorem DVal.vw {σ : St} {ρ : Fr} {c : List Cell} {t : Option Bool} {os : List OV} {v : V} {p : PV} (h : DVal ad K σ G t os v) (sl : Slots ad K G ρ σ c) (e : (rsvL ρ os).bind (dspP t) = some p) : Vw ad K G c p v := by
  obtain ⟨ps, e1, e2⟩ := Option.bind_eq_some_iff.mp e
  cases t with
  | none =>
    obtain ⟨o, rfl, h⟩ := h
    obtain ⟨v', ev, vw⟩ := (OVals.vw sl (OVals.cons h .nil) e1).length |> fun _ => (⟨v, rfl, OVals.vw sl (OVals.cons h .nil) e1⟩ : ∃ v', v' = v ∧ VwL ad K G c ps [v'])
    cases vw with
    | cons a t =>
      cases t
      cases e2
      subst ev
      exact a
  | some b =>
    cases b with
    | true =>
      obtain ⟨a, vs, rfl, g, h⟩ := h
      cases e2
      obtain ⟨d, r, k⟩ := (OVals.vw sl h e1).repL
      exact ⟨d, .tup g r, k⟩
    | false =>
      obtain ⟨a, vs, rfl, g, h⟩ := h
      cases e2
      obtain ⟨d, r, k⟩ := (OVals.vw sl h e1).repL
      exact ⟨d, .lstF g r, k⟩
abbrev SD (ad : Ad) (X : Cx) (W : WX) (cf : Cf) (e : Expr) (t : Option Bool) (ies : List IE) : Prop := PE X e (rd ad X W (RelD ad X.K t) fun ρ => (evO cf ies ρ).bind fitO)
theorem sd_one {e : Expr} {ie : IE} (h : SO ad X W e (opnd ie (evE cf ie))) : SD ad X W cf e none [ie] := h.imp fun σ H Q hq => by
  obtain ⟨ρ, G, c, sl, hh, ha⟩ := hq
  refine ⟨ρ, G, c, sl, hh, ?_⟩
  simp only [evO] at ha
  cases e : opnd ie (evE cf ie) ρ with
  | bad => rw [e] at ha; exact ha
  | ex x ρ1 => rw [e] at ha; exact ha
  | ok o ρ1 =>
    rw [e] at ha
    have ha' : Aft ad X.K W σ (RelD ad X.K none) G c H Q (.ok [o] ρ1) := ha
    intro v H1 G1 c1 t s sl1 h1 ⟨et, hv⟩
    subst et
    exact ha' v H1 G1 c1 [] s sl1 h1 ⟨rfl, o, rfl, hv⟩
theorem sd_tup {es : List Expr} {ies : List IE} {n : Nat} (h : SOs ad X W es (evO cf ies)) : SD ad X W cf (.Tuple es n pos) (some true) ies := (pe_tup h).imp fun σ H Q hq => by
  obtain ⟨ρ, G, c, sl, hh, ha⟩ := hq
  refine ⟨ρ, G, c, sl, hh, Aft.seq ha fun os ρ1 vs H1 G1 c1 t s sl1 h1 ⟨et, hv⟩ k => ?_⟩
  subst et
  unfold fitO at k
  split at k
  · rename_i hz
    refine ⟨by rw [← hv.length]; exact okS_le hz, fun p hp => ?_⟩
    have h1' := nilH h1
    obtain ⟨q1, q2⟩ := h1'.newF hp (.tup vs)
    exact k (.ref p) _ (upd G1 p (.tup vs)) c1 [] (toL ((nilL s).trans q2 h1')) (sl1.mono q2.fz) (toH q1) ⟨rfl, p, vs, rfl, upd_same, hv.mono q2.fz⟩
  · exact k.elim
theorem sd_lst {es : List Expr} {ies : List IE} (h : SOs ad X W es (evO cf ies)) : SD ad X W cf (.List es pos) (some false) ies := (pe_lst h).imp fun σ H Q hq => by
  obtain ⟨ρ, G, c, sl, hh, ha⟩ := hq
  refine ⟨ρ, G, c, sl, hh, Aft.seq ha fun os ρ1 vs H1 G1 c1 t s sl1 h1 ⟨et, hv⟩ k => ?_⟩
  subst et
  unfold fitO at k
  split at k
  · rename_i hz
    refine ⟨by rw [← hv.length]; exact okS_le hz, fun p hp => ?_⟩
    have h1' := nilH h1
    obtain ⟨q1, q2⟩ := h1'.newF hp (.lst vs)
    exact k (.ref p) _ (upd G1 p (.lst vs)) c1 [] (toL ((nilL s).trans q2 h1')) (sl1.mono q2.fz) (toH q1) ⟨rfl, p, vs, rfl, upd_same, hv.mono q2.fz⟩
  · exact k.elim
theorem rd_dcmp {f : CmpOp} {t u : Option Bool} {es ds : List IE} {σ : St} {H : Hp} {Q : VK} (hq : rd ad X W (RelP ad X.K) (evE cf (.dcmp f t es u ds)) σ H Q) : rd ad X W (RelD ad X.K t) (fun ρ => (evO cf es ρ).bind fitO) σ H fun x H1 => rd ad X W (RelD ad X.K u) (fun ρ => (evO cf ds ρ).bind fitO) σ H1 fun y H2 => RN ad X.K (opN (.cmp f)) [x, y] H2 Q := by
  obtain ⟨ρ, G, c, sl, hh, h⟩ := hq
  simp only [evE] at h
  refine ⟨ρ, G, c, sl, hh, h.seq fun os ρ1 v1 H1 G1 c1 t1 s1 sl1 h1 ⟨et1, hv1⟩ k1 => ?_⟩
  subst et1
  have k1' := k1.go0 s1 h1
  have h1' := nilH h1
  refine ⟨ρ1, G1, c1, sl1, h1', k1'.seq fun os2 ρ2 v2 H2 G2 c2 t2 s2 sl2 h2 ⟨et2, hv2⟩ k2 => ?_⟩
  subst et2
  have k2' := k2.go0 s2 h2
  have h2' := nilH h2
  split at k2'
  · rename_i p q e1 e2
    split at k2'
    · rename_i b e3
      exact ⟨[p, q], G2, c2, .bl b, .cons ((hv1.mono s2.fz).vw sl2 e1) (.cons (hv2.vw sl2 e2) .nil), h2', by simp only [opN, e3]; rfl, fun v3 H3 G3 t3 s3 h3 r3 => k2' v3 H3 G3 c2 t3 s3 (sl2.mono s3.fz) h3 r3⟩
    · exact k2'.elim
  · exact k2'.elim
/-! slices -/
theorem partN_int {p : PV} {i : Int} (h : partN p = some i) : p = .int i := by
  cases p with
  | int j => cases h; rfl
  | _ => cases h
theorem rn_sl0 {x : V} {Q : VK} (h : RN ad X.K (opN (.slice false false)) [x] H Q) : rSlN X.K x none none H Q := by
  obtain ⟨p, G, c, r, vp, hh, e, k⟩ := rn1 (c := []) h
  exact sl_N vp hh e k
theorem rn_sl1 {x y : V} {Q : VK} (h : RN ad X.K (opN (.slice true false)) [x, y] H Q) : ∃ i, y = .int i ∧ rSlN X.K x (some i) none H Q := by
  obtain ⟨p, q, G, c, r, vp, vq, hh, e, k⟩ := rn_2 h
  obtain ⟨i, e1, e2⟩ := Option.bind_eq_some_iff.mp (show (partN q).bind _ = some r from e)
  obtain rfl := partN_int e1
  exact ⟨i, vq.int, sl_N vp hh e2 k⟩
theorem rn_sl2 {x y : V} {Q : VK} (h : RN ad X.K (opN (.slice false true)) [x, y] H Q) : ∃ i, y = .int i ∧ rSlN X.K x none (some i) H Q := by
  obtain ⟨p, q, G, c, r, vp, vq, hh, e, k⟩ := rn_2 h
  obtain ⟨i, e1, e2⟩ := Option.bind_eq_some_iff.mp (show (partN q).bind _ = some r from e)
  obtain rfl := partN_int e1
  exact ⟨i, vq.int, sl_N vp hh e2 k⟩
theorem se_slice0 {e : Expr} {x : IE} {p2 : Pos} (he : SO ad X W e (opnd x (evE cf x))) : SE ad X W (.Subscript e (.Slice none none none p2) pos) (evE cf (.op (.slice false false) [x])) :=
  (pe_slice (SlR.or (SlR.or sl_list sl_str) sl_tupA) he po_none po_none).imp fun σ H Q hq => by
    obtain ⟨ρ, G, c, sl, hh, ha⟩ := rd_op1 hq
    refine ⟨ρ, G, c, sl, hh, ?_⟩
    cases e : opnd x (evE cf x) ρ with
    | bad => rw [e] at ha; exact ha
    | ex x ρ1 => rw [e] at ha; exact ha
    | ok o ρ1 =>
      rw [e] at ha
      exact fun v H1 G1 c1 t s sl1 h1 hr => rn_sl0 (ha v H1 G1 c1 t s sl1 h1 hr)
theorem rd_imp {α β : Type} {R : RRel α β} {m : Fr → Res α} {σ : St} {H : Hp} {Q Q' : β → Hp → Prop} (h : rd ad X W R m σ H Q) (k : ∀ v H, Q v H → Q' v H) : rd ad X W R m σ H Q' := by
  obtain ⟨ρ, G, c, sl, hh, ha⟩ := h
  refine ⟨ρ, G, c, sl, hh, ?_⟩
  cases e : m ρ with
  | bad => rw [e] at ha; exact ha
  | ex x ρ1 => rw [e] at ha; exact ha
  | ok o ρ1 =>
    rw [e] at ha
    exact fun v H1 G1 c1 t s sl1 h1 hr => k v H1 (ha v H1 G1 c1 t s sl1 h1 hr)
theorem se_slice1 {e a : Expr} {x y : IE} {p2 : Pos} (he : SO ad X W e (opnd x (evE cf x))) (ha : SO ad X W a (opnd y (evE cf y))) : SE ad X W (.Subscript e (.Slice (some a) none none p2) pos) (evE cf (.op (.slice true false) [x, y])) :=
  (pe_slice (SlR.or (SlR.or sl_list sl_str) sl_tupA) he (po_some ha) po_none).imp fun σ H Q hq => rd_imp (rd_op2 hq) fun v H1 q => rd_imp q fun w H2 q => rn_sl1 q
theorem se_slice2 {e a : Expr} {x y : IE} {p2 : Pos} (he : SO ad X W e (opnd x (evE cf x))) (ha : SO ad X W a (opnd y (evE cf y))) : SE ad X W (.Subscript e (.Slice none (some a) none p2) pos) (evE cf (.op (.slice false true) [x, y])) :=
  (pe_slice (SlR.or (SlR.or sl_list sl_str) sl_tupA) he po_none (po_some ha)).imp fun σ H Q hq => rd_imp (rd_op2 hq) fun v H1 q => rd_imp q fun w H2 q => rn_sl2 q
theorem se_slice3 {e a b : Expr} {x y z : IE} {p2 : Pos} (he : SO ad X W e (opnd x (evE cf x))) (ha : SO ad X W a (opnd y (evE cf y))) (hb : SO ad X W b (opnd z (evE cf z))) : SE ad X W (.Subscript e (.Slice (some a) (some b) none p2) pos) (evE cf (.slc x y z)) :=
  (pe_slice (SlR.or (SlR.or sl_list sl_str) sl_tupA) he (po_some ha) (po_some hb)).imp fun σ H Q hq => by
    obtain ⟨ρ, G, c, sl, hh, h⟩ := hq
    simp only [evE] at h
    refine ⟨ρ, G, c, sl, hh, h.seq fun o1 ρ1 v1 H1 G1 c1 t1 s1 sl1 h1 ⟨et1, hv1⟩ k1 => ?_⟩
    subst et1
    have k1' := k1.go0 s1 h1
    have h1' := nilH h1
    refine ⟨ρ1, G1, c1, sl1, h1', k1'.seq fun o2 ρ2 v2 H2 G2 c2 t2 s2 sl2 h2 ⟨et2, hv2⟩ k2 => ?_⟩
    subst et2
    have k2' := k2.go0 s2 h2
    have h2' := nilH h2
    cases e1 : (rsv ρ2 o2).bind partN with
    | none => rw [e1] at k2'; exact k2'.elim
    | some i =>
      rw [e1] at k2'
      obtain ⟨p, e2, e3⟩ := Option.bind_eq_some_iff.mp e1
      obtain rfl := partN_int e3
      obtain rfl := (hv2.vw sl2 e2).int
      refine ⟨i, rfl, ρ2, G2, c2, sl2, h2', k2'.seq fun o3 ρ3 v3 H3 G3 c3 t3 s3 sl3 h3 ⟨et3, hv3⟩ k3 => ?_⟩
      subst et3
      have k3' := k3.go0 s3 h3
      have h3' := nilH h3
      cases e4 : rsv ρ3 o1 with
      | none => rw [e4] at k3'; exact k3'.elim
      | some q =>
        cases e5 : (rsv ρ3 o3).bind partN with
        | none => rw [e4, e5] at k3'; exact k3'.elim
        | some j =>
          rw [e4, e5] at k3'
          dsimp only at k3'
          obtain ⟨p', e6, e7⟩ := Option.bind_eq_some_iff.mp e5
          obtain rfl := partN_int e7
          obtain rfl := (hv3.vw sl3 e6).int
          cases e8 : sliceN q (some i) (some j) with
          | none => rw [e8] at k3'; exact k3'.elim
          | some r =>
            rw [e8] at k3'
            exact ⟨j, rfl, sl_N (((hv1.mono s2.fz).mono s3.fz).vw sl3 e4) h3' e8 fun v5 H5 G5 t5 s5 h5 r5 => k3' v5 H5 G5 c3 t5 s5 (sl3.mono s5.fz) h5 r5⟩
theorem se_back {e : Expr} {x : IE} {k : Nat} {p1 p2 p3 : Pos} (he : SO ad X W e (opnd x (evE cf x))) : SE ad X W (.Subscript e (.Slice none none (some (.UnaryOp .USub (.Constant (.int 1) k p1) p2)) p3) pos) (evE cf (.op .back [x])) :=
  (pe_revL he).imp fun σ H Q hq => rd_imp (rd_op1 hq) fun v H1 q => by
    obtain ⟨p, G, c, r, vp, hh, e, k⟩ := rn1 (c := []) q
    obtain ⟨xs, e1, e2⟩ := Option.bind_eq_some_iff.mp (show (lstOf p).bind _ = some r from e)
    obtain ⟨o, rfl⟩ := lstOf_some e1
    split at e2
    · rename_i hf
      cases e2
      obtain ⟨a, vs, d, rfl, h1, r1, _⟩ := vp.lst hh
      exact ⟨a, vs, rfl, .of h1, fun l hl => doneL hh (r1.fz0 hf).rev0 k hl⟩
    · cases e2

/-! ### calls of the text's own defs -/
/-- an argument: its value; where it is lent, the slot holds that very value -/
def RelA1 (ad : Ad) (K : PySem.W.Frag) : RRel (PV × Option Nat) V := fun σ G a v t => Rep ad K G a.1 v t ∧ ∀ i, a.2 = some i → σ[i]? = some (some v)
inductive LentTo (σ : St) : List (Option Nat) → List V → Prop
  | nil : LentTo σ [] []
  | cons {o : Option Nat} {os : List (Option Nat)} {v : V} {vs : List V} : (∀ i, o = some i → σ[i]? = some (some v)) → LentTo σ os vs → LentTo σ (o :: os) (v :: vs)
def RelA (ad : Ad) (K : PySem.W.Frag) : RRel (List (PV × Option Nat)) (List V) := fun σ G a v t => RepL ad K G (a.map (·.1)) v t ∧ LentTo σ (a.map (·.2)) v
theorem sa_loc {x : Str} {i : Nat} {run : Fr → Res PV} (h : PE X (.Name x pos) (tVar i)) : PE X (.Name x pos) (rd ad X W (RelA1 ad X.K) (argd true (.loc i) run)) := h.imp fun σ H Q hq => by
  obtain ⟨ρ, G, c, sl, hh, ha⟩ := hq
  simp only [argd] at ha
  cases e : ρ.at i with
  | none => rw [e] at ha; exact ha.elim
  | some p =>
    rw [e] at ha
    obtain ⟨v, d, r, e1, e2, e3, e4⟩ := sl.out e
    refine ⟨v, e1, ?_⟩
    dsimp only at ha
    split at ha
    · rename_i hf
      have e5 := e2.nocell hf
      subst e5
      exact ha v H G c [] (toL Step.refl) sl (toH hh) ⟨e2, fun i z => by cases z⟩
    · exact ha v H G r d ((Step.refl (c := c)).perm (List.Perm.refl _) (e4.trans List.perm_append_comm)) e3 (hh.perm (e4.trans List.perm_append_comm)) ⟨e2, fun j z => by cases z; exact e1⟩
theorem argd_val {b : Bool} {ie : IE} {run : Fr → Res PV} (h : (b && isLoc ie) = false) (ρ : Fr) : argd b ie run ρ = (run ρ).bind fun p ρ' => .ok (p.frz, none) ρ' := by
  cases b with
  | false => cases ie <;> rfl
  | true =>
    cases ie <;> first
      | rfl
      | cases h
theorem sa_val {b : Bool} {e : Expr} {ie : IE} {run : Fr → Res PV} (hl : (b && isLoc ie) = false) (h : SE ad X W e run) : PE X e (rd ad X W (RelA1 ad X.K) (argd b ie run)) := h.imp fun σ H Q hq => by
  obtain ⟨ρ, G, c, sl, hh, ha⟩ := hq
  rw [argd_val hl] at ha
  refine ⟨ρ, G, c, sl, hh, ha.seq fun p ρ1 v H1 G1 c1 t s sl1 h1 r k => ?_⟩
  exact k v H1 (addc G1 t) c1 [] (toL (s.absorb h1)) (sl1.mono (addc_sub h1.right)) (toH h1.absorb) ⟨Rep.absorb h1 r, fun i z => by cases z⟩
theorem so_opA {b : Bool} {e : Expr} {ie : IE} {run : Fr → Res PV} (h1 : b = true → SO ad X W e (opnd ie run)) (h2 : b = false → SE ad X W e run) : SO ad X W e (opA b ie run) := by
  cases b with
  | true => exact h1 rfl
  | false =>
    refine (h2 rfl).imp fun σ H Q hq => ?_
    obtain ⟨ρ, G, c, sl, hh, ha⟩ := hq
    refine ⟨ρ, G, c, sl, hh, Aft.seq (f := fun p ρ' => Res.ok (OV.vl p.frz) ρ') (show Aft ad X.K W σ (RelO ad X.K) G c H Q ((run ρ).bind _) from ha) fun p ρ1 v H1 G1 c1 t s sl1 h1 r k => ?_⟩
    exact k v H1 (addc G1 t) c1 [] (toL (s.absorb h1)) (sl1.mono (addc_sub h1.right)) (toH h1.absorb) ⟨rfl, Rep.absorb h1 r⟩
theorem rd_as_nil {ls : List Bool} {σ : St} {H : Hp} {Q : List V → Hp → Prop} (h : rd ad X W (RelOs ad X.K) (evA cf ls []) σ H Q) : Q [] H := by
  obtain ⟨ρ, G, c, sl, hh, ha⟩ := h
  simp only [evA] at ha
  exact ha [] H G c [] (toL Step.refl) sl (toH hh) ⟨rfl, .nil⟩
theorem rd_as_cons {ls : List Bool} {a : IE} {es : List IE} {σ : St} {H : Hp} {Q : List V → Hp → Prop} (h : rd ad X W (RelOs ad X.K) (evA cf ls (a :: es)) σ H Q) :
    rd ad X W (RelO ad X.K) (opA (ls.headD false) a (evE cf a)) σ H fun x H1 => rd ad X W (RelOs ad X.K) (evA cf ls.tail es) σ H1 fun xs H2 => Q (x :: xs) H2 := by
  obtain ⟨ρ, G, c, sl, hh, ha⟩ := h
  simp only [evA] at ha
  refine ⟨ρ, G, c, sl, hh, ha.seq fun o ρ1 v H1 G1 c1 t s sl1 h1 ⟨et, hv⟩ k => ?_⟩
  subst et
  have k1 := k.go0 s h1
  refine ⟨ρ1, G1, c1, sl1, nilH h1, k1.seq fun os ρ2 vs H2 G2 c2 t2 s2 sl2 h2 ⟨et2, hv2⟩ k2 => ?_⟩
  subst et2
  exact k2 (v :: vs) H2 G2 c2 [] s2 sl2 h2 ⟨rfl, .cons (hv.mono s2.fz) hv2⟩
abbrev SAs (ad : Ad) (X : Cx) (W : WX) (e : List Expr) (m : Fr → Res (List OV)) : Prop := PA X e (rd ad X W (RelOs ad X.K) m)
theorem sas_nil {ls : List Bool} : SAs ad X W [] (evA cf ls []) := pa_nil.imp fun _ _ _ h => rd_as_nil h
theorem sas_cons {ls : List Bool} {e : Expr} {es : List Expr} {a : IE} {as : List IE} (ha : SO ad X W e (opA (ls.headD false) a (evE cf a))) (hs : SAs ad X W es (evA cf ls.tail as)) (hst : starEach (e :: es) X.env = (false, eval e X.env) :: starEach es X.env) : SAs ad X W (e :: es) (evA cf ls (a :: as)) :=
  (pa_cons ha hs hst).imp fun _ _ _ h => rd_as_cons h
/-- what is lent is taken out of its slots -/
theorem take_ok {σ : St} : ∀ {os : List OV} {vs : List V} {ρ ρ' : Fr} {c : List Cell} {as : List (PV × Option Nat)}, OVals ad K σ G os vs → Slots ad K G ρ σ c → takeA os ρ = some (as, ρ') →
    ∃ c' t, Slots ad K G ρ' σ c' ∧ RepL ad K G (as.map (·.1)) vs t ∧ LentTo σ (as.map (·.2)) vs ∧ c.Perm (c' ++ t)
  | _, _, _, _, c, _, .nil, sl, e => by
    cases e
    exact ⟨c, [], sl, .nil, .nil, by rw [List.append_nil]⟩
  | _, _, ρ, _, c, _, .cons (o := .vl p) (os := os) r t, sl, e => by
    simp only [takeA] at e
    obtain ⟨z, e1, e2⟩ := Option.map_eq_some_iff.mp e
    cases e2
    obtain ⟨c', d, s', r', l', p'⟩ := take_ok t sl e1
    exact ⟨c', d, s', .cons (c := []) r r', .cons (fun i z => nomatch z) l', p'⟩
  | _, _, ρ, _, c, _, .cons (o := .vw i) (os := os) (v := v) r t, sl, e => by
    simp only [takeA] at e
    cases ea : ρ.at i with
    | none => rw [ea] at e; cases e
    | some p =>
      rw [ea] at e
      dsimp only at e
      obtain ⟨w, d, c2, e1, e2, e3, e4⟩ := sl.out ea
      have ew : w = v := by
        have r' : σ[i]? = some (some v) := r
        rw [e1] at r'
        exact Option.some.inj (Option.some.inj r')
      subst ew
      split at e
      · rename_i hf
        obtain ⟨z, f1, f2⟩ := Option.map_eq_some_iff.mp e
        cases f2
        obtain ⟨c', d', s', r', l', p'⟩ := take_ok t sl f1
        have hd := e2.nocell hf
        subst hd
        exact ⟨c', d', s', .cons (c := []) e2 r', .cons (fun i z => nomatch z) l', p'⟩
      · obtain ⟨z, f1, f2⟩ := Option.map_eq_some_iff.mp e
        cases f2
        obtain ⟨c', d', s', r', l', p'⟩ := take_ok t e3 f1
        refine ⟨c', d ++ d', s', .cons e2 r', .cons (fun j z => by cases z; exact e1) l', ?_⟩
        refine e4.trans ((p'.append_left d).trans ?_)
        rw [← List.append_assoc, ← List.append_assoc]
        exact List.perm_append_comm.append_right d'
  | _, _, ρ, _, c, _, .cons (o := .vi i k) (os := os) r t, sl, e => by simp only [takeA] at e; cases e
/-- behind a call -/
def AftC (ad : Ad) (K : PySem.W.Frag) (vs : List V) (G : Hp) (c : List Cell) (H : Hp) (Q : VK) (E : XK) : CR → Prop
  | .ok r as => ∀ v H' G' c' t, Step G c H G' (c' ++ t) H' → Slots0 ad K G' as (vs.map some) c' → Hold G' (c' ++ t) H' → Rep ad K G' r v t → Q v H'
  | .ex x as => ∀ d H' G' c', Step G c H G' c' H' → Slots0 ad K G' as (vs.map some) c' → Hold G' c' H' → XRep ad K G' x d → E (.ref (ad x.cls)) (some d) H'
  | .bad => False
/-- the promise of a def: what the evaluator says of it -/
def SpOf (ad : Ad) (K : PySem.W.Frag) (call : List PV → CR) : Sp := fun vs H Q E => ∃ ps G c, RepL ad K G ps vs c ∧ Hold G c H ∧ AftC ad K vs G c H Q E (call ps)
theorem give_slots {σ : St} : ∀ {os : List (Option Nat)} {vs : List V}, LentTo σ os vs → ∀ {as ρ : Fr} {c1 c2 : List Cell}, Slots ad K G ρ σ c1 → Slots0 ad K G as (vs.map some) c2 → ∃ g c3, Slots ad K G (give os as ρ) σ c3 ∧ (c1 ++ c2).Perm (g ++ c3)
  | _, _, .nil, as, ρ, c1, c2, s1, s2 => by
    cases as with
    | nil => exact ⟨c2, c1, s1, List.perm_append_comm⟩
    | cons a as => exact ⟨c2, c1, s1, List.perm_append_comm⟩
  | _, _, .cons (o := o) (os := os) (v := v) (vs := vs) ho t, as, ρ, c1, c2, s1, s2 => by
    cases s2 with
    | @none _ as' _ _ s2 =>
      cases o with
      | none =>
        obtain ⟨g, c3, h1, h2⟩ := give_slots t s1 s2
        exact ⟨g, c3, h1, h2⟩
      | some i =>
        obtain ⟨d, r, h0, h3⟩ := s1.drop i
        obtain ⟨g, c3, h1, h2⟩ := give_slots t h0 s2
        refine ⟨d ++ g, c3, h1, ?_⟩
        refine (h3.append_right c2).trans ?_
        rw [List.append_assoc, List.append_assoc]
        exact h2.append_left d
    | @some p _ as' _ c cs r s2 =>
      cases o with
      | none =>
        obtain ⟨g, c3, h1, h2⟩ := give_slots t s1 s2
        refine ⟨c ++ g, c3, h1, ?_⟩
        rw [List.append_assoc]
        refine List.Perm.trans ?_ (h2.append_left c)
        rw [← List.append_assoc, ← List.append_assoc]
        exact List.perm_append_comm.append_right cs
      | some i =>
        have e := ho i rfl
        have hi : i < ρ.length := by
          rw [s1.length]
          exact (List.getElem?_eq_some_iff.mp e).1
        obtain ⟨d, r1, h0, h3⟩ := s1.retell hi e r
        obtain ⟨g, c3, h1, h2⟩ := give_slots t h0 s2
        refine ⟨d ++ g, c3, h1, ?_⟩
        have h4 : ((c ++ c1) ++ cs).Perm ((d ++ r1) ++ cs) := h3.append_right cs
        refine List.Perm.trans ?_ (h4.trans ?_)
        · rw [← List.append_assoc]
          exact List.perm_append_comm.append_right cs
        · rw [List.append_assoc, List.append_assoc]
          exact h2.append_left d
/-- the arguments are there: what the callee's promise asks -/
theorem fin_call {k : Str} {σ : St} {ρ : Fr} {c t : List Cell} {as : List (PV × Option Nat)} {vs : List V} {Q : VK} (h : Aft ad X.K W σ (RelP ad X.K) G c H Q (callR cf k as ρ)) {c1 : List Cell} (s0 : Step G c H G1 (c1 ++ t) H1) (sl : Slots ad X.K G1 ρ σ c1) (hh : Hold G1 (c1 ++ t) H1)
    (hr : RepL ad X.K G1 (as.map (·.1)) vs t) (hl : LentTo σ (as.map (·.2)) vs) : SpOf ad.base X.K (cf.call k) vs H1 Q fun cls d H' => W cls d σ H' := by
  refine ⟨as.map (·.1), G1, t, hr.toB, hh.right, ?_⟩
  unfold callR at h
  have hh' : Hold G1 (t ++ c1) H1 := hh.perm List.perm_append_comm
  have s0' : Step G c H G1 (t ++ c1) H1 := s0.perm (List.Perm.refl _) List.perm_append_comm
  cases e : cf.call k (as.map (·.1)) with
  | bad => rw [e] at h; exact h
  | ok r as' =>
    rw [e] at h
    intro v H2 G2 c2 t2 s2 sl2 h2 hr2
    obtain ⟨g, c3, q1, q2⟩ := give_slots hl (sl.mono s2.fz) sl2.ofB
    have f1 := hh'.frame s2 h2
    have f2 := s0'.frame s2 hh'
    have pm : ((c2 ++ t2) ++ c1).Perm (g ++ (c3 ++ t2)) := by
      refine List.Perm.trans (List.Perm.trans ?_ (q2.append_right t2)) (by rw [List.append_assoc])
      rw [List.append_assoc, List.append_assoc]
      refine List.Perm.trans (List.perm_append_comm.append_left c2) ?_
      rw [← List.append_assoc, ← List.append_assoc]
      exact List.perm_append_comm.append_right t2
    exact h v H2 G2 c3 t2 ((f2.perm (List.Perm.refl _) pm).less fun z hz => List.mem_append_right _ hz) q1 (f1.perm pm).right hr2.ofB
  | ex x as' =>
    rw [e] at h
    intro d H2 G2 c2 s2 sl2 h2 hx
    obtain ⟨g, c3, q1, q2⟩ := give_slots hl (sl.mono s2.fz) sl2.ofB
    have f1 := hh'.frame s2 h2
    have f2 := s0'.frame s2 hh'
    have pm : (c2 ++ c1).Perm (g ++ c3) := List.perm_append_comm.trans q2
    exact h d H2 G2 c3 ((f2.perm (List.Perm.refl _) pm).less fun z hz => List.mem_append_right _ hz) q1 (f1.perm pm).right hx.ofB
/-- the callee runs; what it raises is in our air -/
theorem run_fnX {k : Nat} {f : Addr} {fd : FuncData} {ps : List Str} {sp : Sp} {pins : List (Addr × Obj)} {σ : St} {H : Hp} {s : Shared} {Q : VK} {us : List Value} {vs : List V} (F : FnOk X.prog X.w X.K X.mg X.base (L2.CX X.prog X.w) k f fd ps sp) (hr : Room k X.A) (hb : Binds X.K fd ps []) (tk : Takes X W)
    (I : Inv X pins σ H s) (r : Vals vs us) (h : sp vs H Q fun cls d H' => W cls d σ H') : wpAny (model X.prog X.w) X.A (call (.ref f) us) (EP X pins σ Q) X.xe s := by
  have hl : (us ++ []).length = ps.length := by rw [List.append_nil, ← r.length]; exact F.len _ _ _ _ h
  have hb' := hb s us I.kIn hl
  rw [List.append_nil] at hb'
  refine wpAny_call (codeAny_mono (F.run X.A X.stack s H ⟨us, []⟩ us vs Q _ hr I.env0 hb' r h) fun r s' hq => ?_)
  cases r with
  | error e => exact tk e s' (XE.of_call I (fun _ _ _ z => z) hq)
  | ok fl =>
    cases fl with
    | ret u => exact I.after hq
    | next => exact False.elim hq
    | brk => exact False.elim hq
    | cont => exact False.elim hq
theorem rd_call {key : Str} {ls : List Bool} {as : List IE} {σ : St} {H : Hp} {Q : VK} (hq : rd ad X W (RelP ad X.K) (evE cf (.call key ls as)) σ H Q) : rd ad X W (RelOs ad X.K) (evA cf ls as) σ H fun vs H1 => SpOf ad.base X.K (cf.call key) vs H1 Q fun cls d H' => W cls d σ H' := by
  obtain ⟨ρ, G, c, sl, hh, h⟩ := hq
  simp only [evE] at h
  refine ⟨ρ, G, c, sl, hh, h.seq fun os ρ1 vs H1 G1 c1 t s1 sl1 h1 ⟨et, hv⟩ k1 => ?_⟩
  subst et
  cases e : takeA os ρ1 with
  | none => rw [e] at k1; exact k1.elim
  | some z =>
    rw [e] at k1
    obtain ⟨c', d, s', r', l', p'⟩ := take_ok hv sl1 e
    exact fin_call k1 ((nilL s1).perm (List.Perm.refl _) p') s' ((nilH h1).perm p') r' l'
theorem se_call {k : Nat} {f : Addr} {fd : FuncData} {ps : List Str} {x key : Str} {p : Pos} {e : Expr} {es : List Expr} {ls : List Bool} {as : List IE} (F : FnOk X.prog X.w X.K X.mg X.base (L2.CX X.prog X.w) k f fd ps (SpOf ad.base X.K (cf.call key))) (hr : Room k X.A) (hg : Gl X x) (hm : X.mg x = some (.ref f))
    (hk : PySem.W.keepIn X.K (.ref f) = true) (hb : Binds X.K fd ps []) (tk : Takes X W) (ha : SAs ad X W (e :: es) (evA cf ls as)) (hdb : (x == ("__debug__" : Str)) = false) (he : starEach (e :: es) X.env = (false, eval e X.env) :: starEach es X.env)
    (hpl : (backTo pos (starEach es X.env)).any (·.1) = false) : SE ad X W (.Call (.Name x p) (e :: es) [] pos) (evE cf (.call key ls as)) := by
  refine ⟨fun pins s σ H Q I hq => ?_⟩
  refine wpAny_Call_Name_kw (ld_glob I hg hm ?_ hdb)
  refine PySem.W.callWith_K (h₀ := X.base) I.ok.mod.kin hk (thn (ha.run pos pins s σ H _ I (rd_call hq)) fun us s1 ⟨vs, H1, I1, r, q⟩ => ⟨I1.kIn, ?_⟩) he hpl
  exact run_fnX F hr hb tk I1 r q
theorem se_call0 {k : Nat} {f : Addr} {fd : FuncData} {ps : List Str} {x key : Str} {p : Pos} {ls : List Bool} (F : FnOk X.prog X.w X.K X.mg X.base (L2.CX X.prog X.w) k f fd ps (SpOf ad.base X.K (cf.call key))) (hr : Room k X.A) (hg : Gl X x) (hm : X.mg x = some (.ref f))
    (hk : PySem.W.keepIn X.K (.ref f) = true) (hb : Binds X.K fd ps []) (tk : Takes X W) (hdb : (x == ("__debug__" : Str)) = false) : SE ad X W (.Call (.Name x p) [] [] pos) (evE cf (.call key ls [])) := by
  refine ⟨fun pins s σ H Q I hq => ?_⟩
  refine wpAny_Call_Name_kw (ld_glob I hg hm ?_ hdb)
  exact PySem.W.callWith_K0 I.kIn hk (run_fnX (us := []) F hr hb tk I .nil (rd_as_nil (rd_call hq)))
end
end Y
end
section
set_option Elab.async false
set_option linter.all false
set_option maxRecDepth 100000
set_option maxHeartbeats 2000000
set_option autoImplicit false
/-! Y5c: calls of any form. -/
namespace Y
open PySem L2
variable {ad : Ad} {K : PySem.W.Frag} {G G' G1 G2 H H' H1 H2 : Hp}
/-- the arguments' values, the starred ones' items one by one -/
inductive SpV (ad : Ad) (K : PySem.W.Frag) (σ : St) (G : Hp) : List Bool → List OV → List V → Prop
  | nil (st : List Bool) : SpV ad K σ G st [] []
  | one {st : List Bool} {o : OV} {os : List OV} {v : V} {vs : List V} : st.headD false = false → OVal ad K σ G o v → SpV ad K σ G st.tail os vs → SpV ad K σ G st (o :: os) (v :: vs)
  | many {st : List Bool} {p : PV} {os : List OV} {a : Addr} {xs : List PV} {us vs : List V} : st.headD false = true → seqOf p = some xs → (SqT K G a us ∨ SqL K G a us) → RepL ad K G xs us [] → SpV ad K σ G st.tail os vs → SpV ad K σ G st (.vl p :: os) (us ++ vs)
theorem Sub.sqt (s : Sub G G') {a : Addr} {vs : List V} (h : SqT K G a vs) : SqT K G' a vs := h.elim (fun z => .inl (s.rd z)) .inr
theorem SpV.mono {σ : St} (s : Sub G G') : ∀ {st : List Bool} {os : List OV} {vs : List V}, SpV ad K σ G st os vs → SpV ad K σ G' st os vs
  | _, _, _, .nil st => .nil st
  | _, _, _, .one h o t => .one h (o.mono s) (SpV.mono s t)
  | _, _, _, .many h e q r t => .many h e (q.elim (fun z => .inl (s.sqt z)) fun z => .inr (s.sql z)) (r.mono s) (SpV.mono s t)
def RelSp (ad : Ad) (K : PySem.W.Frag) (st : List Bool) : RRel (List OV) (List V) := fun σ G o v t => t = [] ∧ SpV ad K σ G st o v
/-- positional values, keywords' values -/
def RelG (ad : Ad) (K : PySem.W.Frag) (st : List Bool) (np : Nat) : RRel (List OV) (List V × List V) := fun σ G os z t => t = [] ∧ ∃ o1 o2, os = o1 ++ o2 ∧ o1.length = np ∧ SpV ad K σ G st o1 z.1 ∧ OVals ad K σ G o2 z.2
section
variable {X : Cx} {W : WX} {cf : Cf} {pos : Pos}
abbrev SPs (ad : Ad) (X : Cx) (W : WX) (st : List Bool) (e : List Expr) (m : Fr → Res (List OV)) : Prop := PA X e (rd ad X W (RelSp ad X.K st) m)
theorem sps_nil {st ls : List Bool} : SPs ad X W st [] (evX cf st ls []) := pa_nil.imp fun _ _ _ h => by
  obtain ⟨ρ, G, c, sl, hh, ha⟩ := h
  simp only [evX] at ha
  exact ha [] _ G c [] (toL Step.refl) sl (toH hh) ⟨rfl, .nil st⟩
theorem sps_cons {st ls : List Bool} {e : Expr} {es : List Expr} {a : IE} {as : List IE} (hs : st.headD false = false) (ha : SO ad X W e (opA (ls.headD false) a (evE cf a))) (ht : SPs ad X W st.tail es (evX cf st.tail ls.tail as)) (hst : starEach (e :: es) X.env = (false, eval e X.env) :: starEach es X.env) :
    SPs ad X W st (e :: es) (evX cf st ls (a :: as)) := (pa_cons ha ht hst).imp fun σ H Q h => by
  obtain ⟨ρ, G, c, sl, hh, ha⟩ := h
  simp only [evX, hs, starA] at ha
  refine ⟨ρ, G, c, sl, hh, ha.seq fun o ρ1 v H1 G1 c1 t s sl1 h1 ⟨et, hv⟩ k => ?_⟩
  subst et
  have k1 := k.go0 s h1
  refine ⟨ρ1, G1, c1, sl1, nilH h1, k1.seq fun os ρ2 vs H2 G2 c2 t2 s2 sl2 h2 ⟨et2, hv2⟩ k2 => ?_⟩
  subst et2
  exact k2 (v :: vs) H2 G2 c2 [] s2 sl2 h2 ⟨rfl, .one hs (hv.mono s2.fz) hv2⟩
/-- what a starred argument stands for -/
theorem seq_rep {p : PV} {v : V} {xs : List PV} (r : Rep ad K G p v []) (e : seqOf p = some xs) : ∃ a us, v = .ref a ∧ (SqT K G a us ∨ SqL K G a us) ∧ RepL ad K G xs us [] := by
  cases p <;> first
    | cases e
    | skip
  · cases r with
    | lstF g r => exact ⟨_, _, rfl, .inr (.of g), r⟩
  · cases r with
    | lck g r => exact ⟨_, _, rfl, .inr g, r⟩
  · cases r with
    | tup g r => exact ⟨_, _, rfl, .inl (.of g), r⟩
/-- .. in the heap -/
theorem seq_up {a : Addr} {us : List V} (s : Sub G H) (q : SqT K G a us ∨ SqL K G a us) : SqT K H a us ∨ SqL K H a us := q.elim (fun z => .inl (s.sqt z)) fun z => .inr (s.sql z)
theorem sps_star {st ls : List Bool} {e : Expr} {p : Pos} {es : List Expr} {a : IE} {as : List IE} (hs : st.headD false = true) (ha : SE ad X W e (evE cf a)) (ht : SPs ad X W st.tail es (evX cf st.tail ls.tail as)) : SPs ad X W st (.Starred e p :: es) (evX cf st ls (a :: as)) :=
  (StX.pa_star ha ht).imp fun σ H Q h => by
  obtain ⟨ρ, G, c, sl, hh, ha⟩ := h
  simp only [evX, hs, starA] at ha
  refine ⟨ρ, G, c, sl, hh, ?_⟩
  cases e : evE cf a ρ with
  | bad => rw [e] at ha; exact ha
  | ex x ρ1 => rw [e] at ha; exact ha
  | ok q ρ1 =>
    rw [e] at ha
    simp only [Res.bind] at ha
    cases e2 : seqOf q.frz with
    | none => rw [e2] at ha; exact ha.elim
    | some xs =>
      rw [e2] at ha
      intro v H1 G1 c1 t s sl1 h1 r
      have r' := Rep.absorb h1 r
      obtain ⟨a', us, ev, sq, rl⟩ := seq_rep r' e2
      refine ⟨a', us, ev, seq_up h1.absorb.fz sq, ρ1, addc G1 t, c1, sl1.mono (addc_sub h1.right), h1.absorb, ?_⟩
      have k1 := Aft.go ha (s.absorb h1) h1.absorb
      refine k1.seq fun os ρ2 vs H2 G2 c2 t2 s2 sl2 h2 ⟨et2, hv2⟩ k2 => ?_
      subst et2
      exact k2 (us ++ vs) H2 G2 c2 [] s2 sl2 h2 ⟨rfl, .many hs e2 (sq.elim (fun z => .inl (s2.fz.sqt z)) fun z => .inr (s2.fz.sql z)) (rl.mono s2.fz) hv2⟩
/-- arguments and keywords -/
def SQs (ad : Ad) (X : Cx) (W : WX) (es : List Expr) (kws : List Keyword) (ns : List Str) (st : List Bool) (np : Nat) (m : Fr → Res (List OV)) : Prop :=
  ∀ (f : Value) (pos : Pos) (pins : List (Addr × Obj)) (s : Shared) (σ : St) (H : Hp) (Q : List V × List V → Hp → Prop), Inv X pins σ H s → rd ad X W (RelG ad X.K st np) m σ H Q →
    wpAny (model X.prog X.w) X.A (evalArgs f true (backTo pos (starEach es X.env)) (backToKw pos (keywordEach kws X.env))) (fun a s' => ∃ vs us ws H', Inv X pins σ H' s' ∧ Vals vs a.pos ∧ a.kw = ns.zip us ∧ Vals ws us ∧ ws.length = ns.length ∧ Q (vs, ws) H') X.xe s
theorem evX_app : ∀ (st ls : List Bool) (a b : List IE) (ρ : Fr), evX cf st ls (a ++ b) ρ = (evX cf st ls a ρ).bind fun o1 ρ1 => (evX cf (st.drop a.length) (ls.drop a.length) b ρ1).bind fun o2 ρ2 => .ok (o1 ++ o2) ρ2
  | st, ls, [], b, ρ => by
    simp only [evX, List.nil_append, List.length_nil, List.drop_zero, Res.bind]
    cases evX cf st ls b ρ <;> rfl
  | st, ls, x :: a, b, ρ => by
    simp only [List.cons_append, evX, List.length_cons]
    cases starA (st.headD false) (ls.headD false) x (evE cf x) ρ with
    | bad => rfl
    | ex x ρ => rfl
    | ok o ρ1 =>
      simp only [Res.bind]
      rw [evX_app st.tail ls.tail a b ρ1]
      have e1 : ls.tail.drop a.length = ls.drop (a.length + 1) := by cases ls <;> simp
      have e2 : st.tail.drop a.length = st.drop (a.length + 1) := by cases st <;> simp
      rw [e1, e2]
      cases evX cf st.tail ls.tail a ρ1 with
      | bad => rfl
      | ex x ρ => rfl
      | ok o1 ρ2 =>
        simp only [Res.bind]
        cases evX cf (st.drop (a.length + 1)) (ls.drop (a.length + 1)) b ρ2 <;> rfl
/-- keywords' values -/
def SKs (ad : Ad) (X : Cx) (W : WX) (kws : List Keyword) (ns : List Str) (m : Fr → Res (List OV)) : Prop := PK X kws (rd ad X W (RelOs ad X.K) m) ∧ ∀ pos, (backToKw pos (keywordEach kws X.env)).all (·.1.isSome) = true ∧ (backToKw pos (keywordEach kws X.env)).filterMap (·.1) = ns
theorem evX_len : ∀ {st ls : List Bool} {es : List IE} {ρ ρ' : Fr} {os : List OV}, evX cf st ls es ρ = .ok os ρ' → os.length = es.length
  | _, _, [], ρ, ρ', os, h => by
    simp only [evX] at h
    cases h
    rfl
  | st, ls, e :: es, ρ, ρ', os, h => by
    simp only [evX] at h
    cases e1 : starA (st.headD false) (ls.headD false) e (evE cf e) ρ with
    | bad => rw [e1] at h; cases h
    | ex x ρ => rw [e1] at h; cases h
    | ok o ρ1 =>
      rw [e1] at h
      simp only [Res.bind] at h
      cases e2 : evX cf st.tail ls.tail es ρ1 with
      | bad => rw [e2] at h; cases h
      | ex x ρ => rw [e2] at h; cases h
      | ok os' ρ2 =>
        rw [e2] at h
        cases h
        rw [List.length_cons, List.length_cons, evX_len e2]
theorem ovals_len {σ : St} : ∀ {os : List OV} {vs : List V}, OVals ad K σ G os vs → vs.length = os.length
  | _, _, .nil => rfl
  | _, _, .cons _ t => congrArg Nat.succ (ovals_len t)
/-- positional ones first, then keywords -/
theorem sqs_mk {es : List Expr} {kws : List Keyword} {ns : List Str} {st ls : List Bool} {as ks : List IE} (ha : SPs ad X W st es (evX cf st ls as)) (hk : SKs ad X W kws ns (evX cf (st.drop as.length) (ls.drop as.length) ks)) (hl : ks.length = ns.length) (hn : ∀ pos, notLone (backTo pos (starEach es X.env)) = true) :
    SQs ad X W es kws ns st as.length (evX cf st ls (as ++ ks)) := by
  intro f pos pins s σ H Q I ⟨ρ, G, c, sl, hh, hq⟩
  rw [evX_app] at hq
  refine ea_many (hn pos) (hk.2 pos).1 (thn (ha.run pos pins s σ H (fun vs H1 => rd ad X W (RelOs ad X.K) (evX cf (st.drop as.length) (ls.drop as.length) ks) σ H1 fun ws H2 => ws.length = ns.length ∧ Q (vs, ws) H2) I ⟨ρ, G, c, sl, hh, ?_⟩) fun us s1 ⟨vs, H1, I1, r1, q1⟩ => thn (hk.1.run pos pins s1 σ H1 _ I1 q1) fun us2 s2 ⟨ws, H2, I2, r2, q2⟩ => ?_)
  · cases e : evX cf st ls as ρ with
    | bad => rw [e] at hq; exact hq
    | ex x ρ1 => rw [e] at hq; exact hq
    | ok o1 ρ1 =>
      rw [e] at hq
      simp only [Res.bind] at hq
      intro vs H1 G1 c1 t s1 sl1 h1 ⟨et, hv⟩
      subst et
      have k1 := Aft.go0 hq s1 h1
      refine ⟨ρ1, G1, c1, sl1, nilH h1, ?_⟩
      cases e2 : evX cf (st.drop as.length) (ls.drop as.length) ks ρ1 with
      | bad => rw [e2] at k1; exact k1
      | ex x ρ2 => rw [e2] at k1; exact k1
      | ok o2 ρ2 =>
        rw [e2] at k1
        intro ws H2 G2 c2 t2 s2 sl2 h2 ⟨et2, hv2⟩
        subst et2
        exact ⟨by rw [ovals_len hv2, evX_len e2, hl], k1 (vs, ws) H2 G2 c2 [] s2 sl2 h2 ⟨rfl, o1, o2, rfl, evX_len e, hv.mono s2.fz, hv2⟩⟩
  · exact ⟨vs, us2, ws, H2, I2, r1, by rw [(hk.2 pos).2], r2, q2.1, q2.2⟩
/-- one starred argument: its items are taken behind the keywords -/
theorem sqs_lone {e : Expr} {p : Pos} {kws : List Keyword} {ns : List Str} {st ls : List Bool} {a : IE} {ks : List IE} (hs : st.headD false = true) (ha : SE ad X W e (evE cf a)) (hk : SKs ad X W kws ns (evX cf st.tail ls.tail ks)) (hl : ks.length = ns.length) :
    SQs ad X W [.Starred e p] kws ns st 1 (evX cf st ls (a :: ks)) := by
  intro f pos pins s σ H Q I ⟨ρ, G, c, sl, hh, hq⟩
  simp only [evX, hs, starA] at hq
  refine ea_lone (hk.2 pos).1 (thn (ha.run pins s σ H (fun v H1 => ∃ (q : PV) (xs : List PV) (a' : Addr) (us : List V), v = .ref a' ∧ (SqT X.K H1 a' us ∨ SqL X.K H1 a' us) ∧
      rd ad X W (RelOs ad X.K) (evX cf st.tail ls.tail ks) σ H1 fun ws H2 => ws.length = ns.length ∧ (SqT X.K H2 a' us ∨ SqL X.K H2 a' us) ∧ Q (us, ws) H2) I ⟨ρ, G, c, sl, hh, ?_⟩) fun u s1 ⟨v, H1, I1, rv, q, xs, a', us, ev, sq, q1⟩ => thn (hk.1.run pos pins s1 σ H1 _ I1 q1) fun us2 s2 ⟨ws, H2, I2, r2, hw, sq2, q2⟩ => ?_)
  · cases e1 : evE cf a ρ with
    | bad => rw [e1] at hq; exact hq
    | ex x ρ1 => rw [e1] at hq; exact hq
    | ok q ρ1 =>
      rw [e1] at hq
      simp only [Res.bind] at hq
      cases e2 : seqOf q.frz with
      | none => rw [e2] at hq; exact hq.elim
      | some xs =>
        rw [e2] at hq
        intro v H1 G1 c1 t s sl1 h1 r
        have r' := Rep.absorb h1 r
        obtain ⟨a', us, ev, sq, rl⟩ := seq_rep r' e2
        refine ⟨q.frz, xs, a', us, ev, seq_up h1.absorb.fz sq, ρ1, addc G1 t, c1, sl1.mono (addc_sub h1.right), h1.absorb, ?_⟩
        have k1 := Aft.go hq (s.absorb h1) h1.absorb
        dsimp only at k1
        cases e3 : evX cf st.tail ls.tail ks ρ1 with
        | bad => rw [e3] at k1; exact k1
        | ex x ρ2 => rw [e3] at k1; exact k1
        | ok o2 ρ2 =>
          rw [e3] at k1
          intro ws H2 G2 c2 t2 s2 sl2 h2 ⟨et2, hv2⟩
          subst et2
          have sq2 : SqT X.K G2 a' us ∨ SqL X.K G2 a' us := sq.elim (fun z => .inl (s2.fz.sqt z)) fun z => .inr (s2.fz.sql z)
          refine ⟨by rw [ovals_len hv2, evX_len e3, hl], seq_up h2.fz sq2, k1 (us, ws) H2 G2 c2 [] s2 sl2 h2 ⟨rfl, [.vl q.frz], o2, rfl, rfl, ?_, hv2⟩⟩
          have := SpV.many (σ := σ) (st := st) (os := []) (vs := []) hs e2 sq2 (rl.mono s2.fz) (.nil _)
          simpa using this
  · subst ev
    cases (show u = Value.ref a' from rv)
    exact StX.star_any I2 sq2 fun vs' s3 I3 r3 => ⟨us, us2, ws, H2, I3, r3, by rw [(hk.2 pos).2], r2, hw, q2⟩
end
end Y
end
section
set_option Elab.async false
set_option linter.all false
set_option maxRecDepth 100000
set_option maxHeartbeats 2000000
set_option autoImplicit false
/-! Y5d: from the arguments to the parameters. -/
namespace Y
open PySem L2
variable {ad : Ad} {K : PySem.W.Frag} {G G' G1 G2 H H' H1 H2 : Hp}
/-- what the checker knows of a def's parameters -/
structure SgD where
  g : Sig
  dfl : List PV
  kwd : List (Str × PV)
/-- a default's value -/
def cstV : PV → Option V
  | .non => some .non
  | .bl b => some (.bl b)
  | .int i => some (.int i)
  | .str x => some (.str x)
  | _ => none
theorem cstV_rep {p : PV} {v : V} (h : cstV p = some v) (G : Hp) : Rep ad K G p v [] := by
  cases p <;> simp only [cstV, Option.some.injEq, reduceCtorEq] at h
  · subst h; exact .non
  · subst h; exact .bl _
  · subst h; exact .int _
  · subst h; exact .str _
def srcB : Src → Src → Bool
  | .a i, .a j => i == j
  | .d .non, .d .non => true
  | .d (.bl a), .d (.bl b) => a == b
  | .d (.int a), .d (.int b) => a == b
  | .d (.str a), .d (.str b) => decide (a = b)
  | _, _ => false
theorem srcB_eq {s t : Src} (h : srcB s t = true) : s = t := by
  unfold srcB at h
  split at h
  · rw [eq_of_beq h]
  · rfl
  · rw [eq_of_beq h]
  · rw [eq_of_beq h]
  · rw [of_decide_eq_true h]
  · cases h
def srcsB : List Src → List Src → Bool
  | [], [] => true
  | a :: r, b :: s => srcB a b && srcsB r s
  | _, _ => false
theorem srcsB_eq : ∀ {s t : List Src}, srcsB s t = true → s = t
  | [], [], _ => rfl
  | a :: r, b :: s, h => by
    simp only [srcsB, Bool.and_eq_true] at h
    rw [srcB_eq h.1, srcsB_eq h.2]
  | [], _ :: _, h => by cases h
  | _ :: _, [], h => by cases h
def preS (n : Nat) : List Src := (List.range n).map fun i => .a (1000 + i)
def leadN : List Bool → Nat → Nat
  | _, 0 => 0
  | st, n + 1 => if st.headD false then 0 else leadN st.tail n + 1
/-- do these sources give the parameters their values -/
def calC (d : SgD) (npre np : Nat) (st : List Bool) (ns : List Str) (ss : List Src) (rs : Option (Nat × Nat)) : Bool :=
  (match bindG d.g (d.dfl.map Src.d) (d.kwd.map fun z => (z.1, Src.d z.2)) (preS npre ++ (List.range (leadN st np)).map Src.a) (ns.zip ((List.range ns.length).map fun i => Src.a (np + i))) with
    | some l => srcsB l (preS npre ++ ss)
    | none => false) && decide (npre ≤ d.g.pos.length) && decide (np + ns.length < 1000) && (match d.g.va, rs with
    | none, none => leadN st np == np
    | some _, some z => z.1 == d.g.pos.length - npre && z.2 == np && (leadN st np == np || decide (z.1 ≤ leadN st np))
    | _, _ => false)
section
variable {σ : St}
theorem lead_le : ∀ (st : List Bool) (n : Nat), leadN st n ≤ n
  | _, 0 => Nat.le_refl _
  | st, n + 1 => by
    unfold leadN
    split
    · omega
    · have := lead_le st.tail n
      omega
theorem spv_lead : ∀ {st : List Bool} {os : List OV} {vs : List V} (k : Nat), SpV ad K σ G st os vs → k ≤ leadN st os.length → ∃ v1 v2, vs = v1 ++ v2 ∧ v1.length = k ∧ OVals ad K σ G (os.take k) v1 ∧ SpV ad K σ G (st.drop k) (os.drop k) v2
  | _, _, vs, 0, h, _ => ⟨[], vs, rfl, rfl, .nil, by simpa using h⟩
  | st, [], _, k + 1, h, hk => by simp [leadN] at hk
  | st, o :: os, _, k + 1, h, hk => by
    rw [List.length_cons, leadN] at hk
    split at hk
    · omega
    · rename_i hs
      cases h with
      | one _ ho ht =>
        obtain ⟨v1, v2, e1, e2, e3, e4⟩ := spv_lead k ht (by omega)
        refine ⟨_ :: v1, v2, by rw [e1]; rfl, by simp [e2], .cons ho e3, ?_⟩
        have : st.drop (k + 1) = st.tail.drop k := by cases st <;> simp
        rw [this]
        exact e4
      | many hs' _ _ _ _ => exact absurd hs' hs
theorem restL_ok : ∀ {st : List Bool} {os : List OV} {vs : List V} {l : List PV}, SpV ad K σ G st os vs → restL st os = some l → RepL ad K G l vs []
  | _, _, _, _, .nil _, e => by
    cases e
    exact .nil
  | st, _, _, l, .one (o := o) hs ho ht, e => by
    cases o with
    | vl p =>
      simp only [restL, hs, Bool.false_eq_true, if_false] at e
      split at e
      · rename_i l' e1
        cases e
        exact .cons0 ho (restL_ok ht e1)
      · cases e
    | vw i => simp [restL] at e
    | vi i k => simp [restL] at e
  | st, _, _, l, .many (xs := xs) hs hq hsq hr ht, e => by
    simp only [restL, hs, if_true] at e
    split at e
    · rename_i l' e1
      rw [hq] at e
      cases e
      exact hr.app0 (restL_ok ht e1)
    · cases e
theorem bindG_pref {α : Type} {g : Sig} {dfl us r : List α} {kwd kw : List (Str × α)} (hv : g.va.isSome = true) (hl : g.pos.length ≤ us.length) : bindG g dfl kwd (us ++ r) kw = bindG g dfl kwd us kw := by
  have e : g.pos.zip (us ++ r) = g.pos.zip us := by
    rw [List.zip_eq_zip_take_min, List.zip_eq_zip_take_min (l₁ := g.pos) (l₂ := us)]
    rw [List.length_append, Nat.min_eq_left (by omega), Nat.min_eq_left hl, List.take_append_of_le_length hl]
  unfold bindG
  rw [e, hv, Bool.or_true, Bool.or_true]
/-- what a source is worth -/
def SrcR (pre v1 ws : List V) (np : Nat) : Src → V → Prop
  | .a i, v => (1000 ≤ i ∧ pre[i - 1000]? = some v) ∨ (i < v1.length ∧ v1[i]? = some v) ∨ (np ≤ i ∧ i < 1000 ∧ ws[i - np]? = some v)
  | .d p, v => cstV p = some v
theorem allR_app {α β : Type} {R : α → β → Prop} : ∀ {a a' : List α} {b b' : List β}, AllR R a b → AllR R a' b' → AllR R (a ++ a') (b ++ b')
  | _, _, _, _, .nil, h => h
  | _, _, _, _, .cons r t, h => .cons r (allR_app t h)
theorem allR_split {α β : Type} {R : α → β → Prop} : ∀ {a a' : List α} {b : List β}, AllR R (a ++ a') b → ∃ b1 b2, b = b1 ++ b2 ∧ AllR R a b1 ∧ AllR R a' b2
  | [], _, b, h => ⟨[], b, rfl, .nil, h⟩
  | x :: a, _, _, h => by
    cases h with
    | cons r t =>
      obtain ⟨b1, b2, e, h1, h2⟩ := allR_split t
      exact ⟨_ :: b1, b2, by rw [e]; rfl, .cons r h1, h2⟩
theorem allR_of {α β : Type} {R : α → β → Prop} : ∀ {a : List α} {b : List β}, a.length = b.length → (∀ (i : Nat) (x : α) (y : β), a[i]? = some x → b[i]? = some y → R x y) → AllR R a b
  | [], [], _, _ => .nil
  | x :: a, y :: b, hl, h => .cons (h 0 x y rfl rfl) (allR_of (by simpa using hl) fun i u v e1 e2 => h (i + 1) u v (by simpa using e1) (by simpa using e2))
  | [], _ :: _, hl, _ => by simp at hl
  | _ :: _, [], hl, _ => by simp at hl
theorem allR_get {α β : Type} {R : α → β → Prop} : ∀ {a : List α} {b : List β} {i : Nat} {x : α} {y : β}, AllR R a b → a[i]? = some x → b[i]? = some y → R x y
  | _, _, i, _, _, .nil, h, _ => by simp at h
  | _, _, 0, _, _, .cons r t, h1, h2 => by
    cases h1
    cases h2
    exact r
  | _, _, i + 1, _, _, .cons r t, h1, h2 => allR_get t (i := i) (by simpa using h1) (by simpa using h2)
theorem preS_vals {pre v1 ws : List V} {np : Nat} : ∀ {b : List V}, AllR (SrcR pre v1 ws np) (preS pre.length) b → np ≤ 1000 → v1.length ≤ 1000 → b = pre := fun {b} h hn hv => by
  have hl := h.length
  rw [preS, List.length_map, List.length_range] at hl
  apply List.ext_getElem?
  intro i
  by_cases hi : i < pre.length
  · have e2 : (preS pre.length)[i]? = some (.a (1000 + i)) := by simp [preS, hi]
    obtain ⟨y, hy⟩ : ∃ y, b[i]? = some y := ⟨b[i]'(by omega), by simp⟩
    have := allR_get h e2 hy
    rcases this with ⟨_, e⟩ | ⟨e, _⟩ | ⟨_, e, _⟩
    · rw [hy]
      rw [show 1000 + i - 1000 = i from by omega] at e
      exact e.symm
    · omega
    · omega
  · rw [List.getElem?_eq_none (by omega), List.getElem?_eq_none (by omega)]
theorem ovals_app : ∀ {o o' : List OV} {v v' : List V}, OVals ad K σ G o v → OVals ad K σ G o' v' → OVals ad K σ G (o ++ o') (v ++ v')
  | _, _, _, _, .nil, h => h
  | _, _, _, _, .cons r t, h => .cons r (ovals_app t h)
theorem ovals_get : ∀ {o : List OV} {v : List V} {i : Nat} {x : OV} {y : V}, OVals ad K σ G o v → o[i]? = some x → v[i]? = some y → OVal ad K σ G x y
  | _, _, i, _, _, .nil, h, _ => by simp at h
  | _, _, 0, _, _, .cons r t, h1, h2 => by
    cases h1
    cases h2
    exact r
  | _, _, i + 1, _, _, .cons r t, h1, h2 => ovals_get t (i := i) (by simpa using h1) (by simpa using h2)
/-- the operands that the sources name -/
theorem src_ovals {pre v1 ws : List V} {np : Nat} {o1 o2 : List OV} (hl : o1.length = np) (hn : np + o2.length < 1000) (h1 : OVals ad K σ G (o1.take v1.length) v1) (hv : v1.length ≤ np) (h2 : OVals ad K σ G o2 ws) : ∀ {ss : List Src} {wv : List V} {a : List OV}, AllR (SrcR pre v1 ws np) ss wv → srcO (o1 ++ o2) ss = some a → OVals ad K σ G a wv
  | _, _, _, .nil, e => by
    cases e
    exact .nil
  | .a i :: ss, _, _, .cons r t, e => by
    simp only [srcO] at e
    split at e
    · rename_i o l e1 e2
      cases e
      refine .cons ?_ (src_ovals hl hn h1 hv h2 t e2)
      have hi : i < 1000 := by
        have := (List.getElem?_eq_some_iff.mp e1).1
        rw [List.length_append] at this
        omega
      rcases r with ⟨z, _⟩ | ⟨z1, z2⟩ | ⟨z1, _, z2⟩
      · omega
      · rw [List.getElem?_append_left (by omega)] at e1
        exact ovals_get h1 (by rw [List.getElem?_take_of_lt z1]; exact e1) z2
      · rw [List.getElem?_append_right (by omega), hl] at e1
        exact ovals_get h2 e1 z2
    · cases e
  | .d p :: ss, _, _, .cons r t, e => by
    simp only [srcO] at e
    obtain ⟨l, e1, rfl⟩ := Option.map_eq_some_iff.mp e
    exact .cons (cstV_rep r G) (src_ovals hl hn h1 hv h2 t e1)
/-- a default's values -/
def DflR (d : SgD) (dflV : List V) (kwdV : List (Str × V)) : Prop := AllR (fun p v => cstV p = some v) d.dfl dflV ∧ AllK (fun p v => cstV p = some v) d.kwd kwdV
theorem allR_map {α β γ : Type} {R : β → γ → Prop} {f : α → β} : ∀ {a : List α} {b : List γ}, AllR (fun x y => R (f x) y) a b → AllR R (a.map f) b
  | _, _, .nil => .nil
  | _, _, .cons r t => .cons r (allR_map t)
theorem allK_map {α β γ : Type} {R : β → γ → Prop} {f : α → β} : ∀ {a : List (Str × α)} {b : List (Str × γ)}, AllK (fun x y => R (f x) y) a b → AllK R (a.map fun z => (z.1, f z.2)) b
  | _, _, .nil => .nil
  | _, _, .cons r t => .cons r (allK_map t)
theorem spv_nil {st : List Bool} {vs : List V} (h : SpV ad K σ G st [] vs) : vs = [] := by
  cases h
  rfl
/-- what a call's arguments come to -/
theorem cal_bind {d : SgD} {dflV : List V} {kwdV : List (Str × V)} {preV vs ws : List V} {st : List Bool} {o1 o2 os : List OV} {ns : List Str} {ss : List Src} {rs : Option (Nat × Nat)} {c1 cc : List Cell} {ρ : Fr}
    (hd : DflR d dflV kwdV) (hc : calC d preV.length o1.length st ns ss rs = true) (hv : SpV ad K σ G1 st o1 vs) (hw : OVals ad K σ G1 o2 ws) (hns : ws.length = ns.length) (e1 : bindO st ss rs (o1 ++ o2) = some os)
    (sl : Slots ad K G1 ρ σ c1) (hh : Hold G1 cc H1) :
    ∃ wv, bindG d.g dflV kwdV (preV ++ vs) (ns.zip ws) = some (preV ++ wv) ∧ ((preV ++ vs).drop d.g.pos.length).length ≤ sizeLine ∧
      ∀ vs' H2, BndG d.g H1 (preV ++ wv) ((preV ++ vs).drop d.g.pos.length) vs' H2 → ∃ G2 v2, vs' = preV ++ v2 ∧ OVals ad K σ G2 os v2 ∧ Slots ad K G2 ρ σ c1 ∧ Step G1 cc H1 G2 cc H2 ∧ Hold G2 cc H2 := by
  unfold calC at hc
  simp only [Bool.and_eq_true, decide_eq_true_eq] at hc
  obtain ⟨⟨⟨hb, h2⟩, h3⟩, h4⟩ := hc
  have ho2 := ovals_len hw
  obtain ⟨v1, v2, ev, el, w1, w2⟩ := spv_lead (leadN st o1.length) hv (Nat.le_refl _)
  have hle := lead_le st o1.length
  split at hb
  rotate_left
  · cases hb
  rename_i l hbind
  have el2 := srcsB_eq hb
  subst el2
  have r1 : AllR (SrcR preV v1 ws o1.length) (d.dfl.map Src.d) dflV := allR_map (R := SrcR preV v1 ws o1.length) (f := Src.d) hd.1
  have r2 : AllK (SrcR preV v1 ws o1.length) (d.kwd.map fun z => (z.1, Src.d z.2)) kwdV := allK_map (R := SrcR preV v1 ws o1.length) (f := Src.d) hd.2
  have r3 : AllR (SrcR preV v1 ws o1.length) (preS preV.length ++ (List.range (leadN st o1.length)).map Src.a) (preV ++ v1) := by
    refine allR_app (allR_of (by simp [preS]) fun i x y f1 f2 => ?_) (allR_of (by simp [el]) fun i x y f1 f2 => ?_)
    · have hi := (List.getElem?_eq_some_iff.mp f2).1
      have : (preS preV.length)[i]? = some (.a (1000 + i)) := by simp [preS, hi]
      rw [this] at f1
      cases f1
      exact .inl ⟨by omega, by rw [show 1000 + i - 1000 = i from by omega]; exact f2⟩
    · have hi := (List.getElem?_eq_some_iff.mp f2).1
      have : ((List.range (leadN st o1.length)).map Src.a)[i]? = some (.a i) := by simp [el ▸ hi]
      rw [this] at f1
      cases f1
      exact .inr (.inl ⟨hi, f2⟩)
  have r4 : AllK (SrcR preV v1 ws o1.length) (ns.zip ((List.range ns.length).map fun i => Src.a (o1.length + i))) (ns.zip ws) := AllK.zip ns (allR_of (by simp [hns]) fun i x y f1 f2 => by
    have hi := (List.getElem?_eq_some_iff.mp f2).1
    have : ((List.range ns.length).map fun i => Src.a (o1.length + i))[i]? = some (.a (o1.length + i)) := by simp [hns ▸ hi]
    rw [this] at f1
    cases f1
    exact .inr (.inr ⟨by omega, by omega, by rw [show o1.length + i - o1.length = i from by omega]; exact f2⟩))
  obtain ⟨y, f1, f2⟩ := bindG_rel r1 r2 r3 r4 hbind
  obtain ⟨b1, wv, ey, q1, q2⟩ := allR_split f2
  have eb := preS_vals q1 (by omega) (by omega)
  rw [eb] at ey
  subst ey
  have hso : (∃ a b, srcO (o1 ++ o2) ss = some a ∧ restO st (o1 ++ o2) rs = some b ∧ os = a ++ b) := by
    unfold bindO at e1
    split at e1
    · rename_i a b g1 g2
      cases e1
      exact ⟨a, b, g1, g2, rfl⟩
    · cases e1
  obtain ⟨a, b, g1, g2, rfl⟩ := hso
  have w1' : OVals ad K σ G1 (o1.take v1.length) v1 := by rw [el]; exact w1
  have va : OVals ad K σ G1 a wv := src_ovals rfl (by omega) w1' (by omega) hw q2 g1
  have hdrop : (preV ++ vs).drop d.g.pos.length = vs.drop (d.g.pos.length - preV.length) := by
    rw [List.drop_append, List.drop_eq_nil_of_le h2, List.nil_append]
  have full : leadN st o1.length = o1.length → v2 = [] := fun z => by
    rw [z, List.drop_of_length_le (Nat.le_refl _)] at w2
    exact spv_nil w2
  cases hva : d.g.va with
  | none =>
    rw [hva] at h4
    cases rs with
    | some z => cases h4
    | none =>
      have hn := full (eq_of_beq h4)
      subst hn
      rw [List.append_nil] at ev
      subst ev
      refine ⟨wv, f1, ?_, fun vs' H2 hb => ?_⟩
      · unfold bindG at f1
        split at f1
        · rename_i hcond
          simp only [Bool.and_eq_true, Bool.or_eq_true, decide_eq_true_eq, hva, Option.isSome, Bool.false_eq_true, or_false] at hcond
          rw [List.length_drop]
          omega
        · cases f1
      · unfold BndG at hb
        rw [hva] at hb
        obtain ⟨e3, e4⟩ := hb
        subst e3 e4
        simp only [restO] at g2
        cases g2
        exact ⟨G1, wv, rfl, by rw [List.append_nil]; exact va, sl, Step.refl, hh⟩
  | some x =>
    rw [hva] at h4
    cases rs with
    | none => cases h4
    | some z =>
      obtain ⟨z1, z2⟩ := z
      simp only [Bool.and_eq_true, Bool.or_eq_true, beq_iff_eq, decide_eq_true_eq] at h4
      obtain ⟨⟨k1, k2⟩, k3⟩ := h4
      subst k1 k2
      have f3 : bindG d.g dflV kwdV (preV ++ vs) (ns.zip ws) = some (preV ++ wv) := by
        rcases k3 with k3 | k3
        · have hn := full k3
          subst hn
          rw [List.append_nil] at ev
          rw [ev]
          exact f1
        · rw [ev, ← List.append_assoc, bindG_pref (by rw [hva]; rfl) (by rw [List.length_append, el]; omega)]
          exact f1
      have htake : (o1 ++ o2).take o1.length = o1 := by simp
      simp only [restO, htake] at g2
      obtain ⟨l, g3, g4⟩ := Option.bind_eq_some_iff.mp g2
      split at g4
      rotate_left
      · cases g4
      rename_i hz
      cases g4
      have hrest : RepL ad K G1 l (vs.drop (d.g.pos.length - preV.length)) [] := by
        by_cases hk : d.g.pos.length - preV.length ≤ leadN st o1.length
        · obtain ⟨u1, u2, ev', el', _, w4⟩ := spv_lead _ hv hk
          rw [ev', List.drop_append, List.drop_eq_nil_of_le (by omega), List.nil_append, el', Nat.sub_self, List.drop_zero]
          exact restL_ok w4 g3
        · have hn := full (k3.resolve_right hk)
          subst hn
          rw [List.append_nil] at ev
          have e5 : o1.drop (d.g.pos.length - preV.length) = [] := List.drop_of_length_le (by have := k3.resolve_right hk; omega)
          rw [e5] at g3
          simp only [restL] at g3
          cases g3
          rw [List.drop_of_length_le (by have := k3.resolve_right hk; rw [ev]; omega)]
          exact .nil
      refine ⟨wv, f3, ?_, fun vs' H2 hb => ?_⟩
      · rw [hdrop, ← hrest.length]
        exact okS_le hz
      · unfold BndG at hb
        rw [hva] at hb
        obtain ⟨p, hp0, e3, e4⟩ := hb
        subst e3 e4
        rw [hdrop]
        obtain ⟨n1, n2⟩ := hh.newF hp0 (.tup (vs.drop (d.g.pos.length - preV.length)))
        have tup : OVals ad K σ (upd G1 p (.tup (vs.drop (d.g.pos.length - preV.length)))) [.vl (.tup l)] [.ref p] := .cons (.tup upd_same (hrest.mono n2.fz)) .nil
        exact ⟨_, wv ++ [.ref p], by simp, ovals_app (va.mono n2.fz) tup, sl.mono n2.fz, n2, n1⟩
/-- .. what is lent is taken -/
theorem cal_ok {d : SgD} {dflV : List V} {kwdV : List (Str × V)} {preV vs ws : List V} {st : List Bool} {o1 o2 pre os : List OV} {ns : List Str} {ss : List Src} {rs : Option (Nat × Nat)} {c1 : List Cell} {ρ : Fr} {as : List (PV × Option Nat)} {ρ2 : Fr}
    (hd : DflR d dflV kwdV) (hc : calC d preV.length o1.length st ns ss rs = true) (hv : SpV ad K σ G1 st o1 vs) (hw : OVals ad K σ G1 o2 ws) (hns : ws.length = ns.length) (hp : OVals ad K σ G1 pre preV) (e1 : bindO st ss rs (o1 ++ o2) = some os) (e2 : takeA (pre ++ os) ρ = some (as, ρ2))
    (sl : Slots ad K G1 ρ σ c1) (hh : Hold G1 c1 H1) :
    ∃ wv, bindG d.g dflV kwdV (preV ++ vs) (ns.zip ws) = some (preV ++ wv) ∧ ((preV ++ vs).drop d.g.pos.length).length ≤ sizeLine ∧
      ∀ vs' H2, BndG d.g H1 (preV ++ wv) ((preV ++ vs).drop d.g.pos.length) vs' H2 → ∃ G2 c' t, Slots ad K G2 ρ2 σ c' ∧ RepL ad K G2 (as.map (·.1)) vs' t ∧ LentTo σ (as.map (·.2)) vs' ∧ Step G1 c1 H1 G2 (c' ++ t) H2 ∧ Hold G2 (c' ++ t) H2 := by
  obtain ⟨wv, f1, f2, f3⟩ := cal_bind hd hc hv hw hns e1 sl hh
  refine ⟨wv, f1, f2, fun vs' H2 hb => ?_⟩
  obtain ⟨G2, v2, ev, h1, sl2, stp, hh2⟩ := f3 vs' H2 hb
  subst ev
  obtain ⟨c', t, s', r', l', p'⟩ := take_ok (ovals_app (hp.mono stp.fz) h1) sl2 e2
  exact ⟨G2, c', t, s', r', l', stp.perm (List.Perm.refl _) p', hh2.perm p'⟩
end
end Y
end
section
set_option Elab.async false
set_option linter.all false
set_option maxRecDepth 100000
set_option maxHeartbeats 2000000
set_option autoImplicit false
/-! Y5e: calls: a def, a class, a method. -/
namespace Y
open PySem L2
variable {ad : Ad} {K : PySem.W.Frag} {G G' G1 G2 H H' H1 H2 : Hp}
section
variable {X : Cx} {W : WX} {cf : Cf} {pos : Pos} {σ : St}
/-- what a call's end asks -/
def FinC (ad : Ad) (X : Cx) (W : WX) (cf : Cf) (d : SgD) (dflV : List V) (kwdV : List (Str × V)) (ns : List Str) (key : Str) (σ : St) (preV vs ws : List V) (H : Hp) (Q : VK) : Prop :=
  ∃ wv, bindG d.g dflV kwdV (preV ++ vs) (ns.zip ws) = some (preV ++ wv) ∧ ((preV ++ vs).drop d.g.pos.length).length ≤ sizeLine ∧
    ∀ vs' H2, BndG d.g H (preV ++ wv) ((preV ++ vs).drop d.g.pos.length) vs' H2 → SpOf ad.base X.K (cf.call key) vs' H2 Q fun cls dd H' => W cls dd σ H'
/-- the arguments' part of a call's run -/
def calR (cf : Cf) (key : Str) (pre : List OV) (st ls : List Bool) (es : List IE) (ss : List Src) (rs : Option (Nat × Nat)) (ρ : Fr) : Res PV := (evX cf st ls es ρ).bind fun os ρ1 => match bindO st ss rs os with
  | some os => (match takeA (pre ++ os) ρ1 with
    | some z => callR cf key z.1 z.2
    | none => .bad)
  | none => .bad
theorem fin_cal {key : Str} {pre : List OV} {preV : List V} {st ls : List Bool} {es : List IE} {ss : List Src} {rs : Option (Nat × Nat)} {d : SgD} {dflV : List V} {kwdV : List (Str × V)} {ns : List Str} {np : Nat} {ρ : Fr} {c : List Cell} {Q : VK}
    (hd : DflR d dflV kwdV) (hc : calC d preV.length np st ns ss rs = true) (hl : es.length = np + ns.length) (sl : Slots ad X.K G ρ σ c) (hh : Hold G c H) (hp : OVals ad X.K σ G pre preV) (h : Aft ad X.K W σ (RelP ad X.K) G c H Q (calR cf key pre st ls es ss rs ρ)) :
    rd ad X W (RelG ad X.K st np) (evX cf st ls es) σ H fun z H1 => FinC ad X W cf d dflV kwdV ns key σ preV z.1 z.2 H1 Q := by
  refine ⟨ρ, G, c, sl, hh, ?_⟩
  unfold calR at h
  cases e : evX cf st ls es ρ with
  | bad => rw [e] at h; exact h
  | ex x ρ1 => rw [e] at h; exact h
  | ok os ρ1 =>
    rw [e] at h
    simp only [Res.bind] at h
    intro z H1 G1 c1 t s1 sl1 h1 ⟨et, o1, o2, eo, el, hv, hw⟩
    subst et
    subst eo
    have hlen := evX_len e
    rw [List.length_append, hl, el] at hlen
    cases e1 : bindO st ss rs (o1 ++ o2) with
    | none => rw [e1] at h; exact h.elim
    | some os' =>
      rw [e1] at h
      dsimp only at h
      cases e2 : takeA (pre ++ os') ρ1 with
      | none => rw [e2] at h; exact h.elim
      | some y =>
        rw [e2] at h
        dsimp only at h
        obtain ⟨wv, f1, f2, f3⟩ := cal_ok hd (by rw [el]; exact hc) hv hw (by rw [ovals_len hw]; omega) (hp.mono s1.fz) e1 e2 sl1 (nilH h1)
        refine ⟨wv, f1, f2, fun vs' H2 hb => ?_⟩
        obtain ⟨G2, c', t, s', r', l', stp, hh2⟩ := f3 vs' H2 hb
        exact fin_call h ((nilL s1).trans stp (nilH h1)) s' hh2 r' l'
/-- the callee runs -/
theorem run_fnU {CXk : Nat} {key : Str} {f : Addr} {fd : FuncData} {d : SgD} {dflV preV vs ws : List V} {kwdV : List (Str × V)} {ns : List Str} {A : Around} {s : Shared} {Q : VK} {preU us uw : List Value}
    (F : FnU X.prog X.w X.K X.mg X.base (L2.CX X.prog X.w) CXk f fd d.g.ps (SpOf ad.base X.K (cf.call key))) (S : SigOk X.K fd d.g dflV kwdV) (hr : Room CXk A) (e0 : Env0 X.prog X.w X.K X.mg X.base A X.stack s H) (rp : Vals preV preU) (r : Vals vs us) (rw_ : Vals ws uw) (h : FinC ad X W cf d dflV kwdV ns key σ preV vs ws H Q) :
    codeAny (model X.prog X.w) A (.call (.ref f) ⟨preU ++ us, ns.zip uw⟩) (L2.CR (L2.CX X.prog X.w) X.stack X.prog X.w H s Q fun cls dd H' => W cls dd σ H') s := by
  obtain ⟨wv, f1, f2, f3⟩ := h
  exact F A X.stack s H ⟨preU ++ us, ns.zip uw⟩ Q _ _ hr e0 (bnd_sig StX.cxUp S e0 (rp.append r) (AllK.zip ns (allR_vals rw_)) f1 f2) f3
/-- what the text's def at key keeps, as a call sees it -/
structure FnG (ad : Ad) (X : Cx) (cf : Cf) (cm : Bool) (key : Str) (d : SgD) : Prop where
  ex : ∃ (k : Nat) (fd : FuncData) (dflV : List V) (kwdV : List (Str × V)), FnU X.prog X.w X.K X.mg X.base (L2.CX X.prog X.w) k (ad.nm.fn key) fd d.g.ps (SpOf ad.base X.K (cf.call key)) ∧ SigOk X.K fd d.g dflV kwdV ∧ DflR d dflV kwdV ∧ (cm = true → Room (k + 1) X.A)
theorem after {pins : List (Addr × Obj)} {s : Shared} {Q : VK} {A : Around} {cd : Code} (tk : Takes X W) (I : Inv X pins σ H s) (h : codeAny (model X.prog X.w) A cd (L2.CR (L2.CX X.prog X.w) X.stack X.prog X.w H s Q fun cls dd H' => W cls dd σ H') s) :
    codeAny (model X.prog X.w) A cd (fun r s' => match r with
      | .ok (.ret u) => EP X pins σ Q u s'
      | .ok _ => False
      | .error e => X.xe e s') s := codeAny_mono h fun r s' hq => by
  cases r with
  | error e => exact tk e s' (XE.of_call I (fun _ _ _ z => z) hq)
  | ok fl =>
    cases fl with
    | ret u => exact I.after hq
    | next => exact False.elim hq
    | brk => exact False.elim hq
    | cont => exact False.elim hq
/-- the call's node: its arguments, then the callee -/
theorem cal_node {f : Value} {first : List Value} {P : Heap → Prop} {es : List Expr} {kws : List Keyword} {ns : List Str} {st ls : List Bool} {np : Nat} {ies : List IE} {pins : List (Addr × Obj)} {s : Shared} {Q : VK} {Qz : List V × List V → Hp → Prop}
    (ha : SQs ad X W es kws ns st np (evX cf st ls ies)) (hall : (backToKw pos (keywordEach kws X.env)).all (·.1.isSome) = true) (hk : ∀ h, P h → ∃ k, (k = Keeper.frame ∨ k = Keeper.machine ∨ k = Keeper.boundFrame) ∧ PySem.W.Looks (model X.prog X.w) h (keeperOf f) k)
    (I : Inv X pins σ H s) (hq : rd ad X W (RelG ad X.K st np) (evX cf st ls ies) σ H Qz)
    (h : ∀ (s1 : Shared) (vs ws : List V) (us uw : List Value) (H1 : Hp), Inv X pins σ H1 s1 → Vals vs us → Vals ws uw → Qz (vs, ws) H1 → P s1.heap ∧ wpAny (model X.prog X.w) X.A (call f (first ++ us) (ns.zip uw)) (EP X pins σ Q) X.xe s1) :
    wpAny (model X.prog X.w) X.A (callWith pos f first (backTo pos (starEach es X.env)) (backToKw pos (keywordEach kws X.env))) (EP X pins σ Q) X.xe s := by
  refine callWith_any hall hk (thn (ha f pos pins s σ H Qz I hq) fun a s1 ⟨vs, us, ws, H1, I1, r1, ek, r2, hl, q⟩ => ?_)
  obtain ⟨ap, ak⟩ := a
  subst ek
  exact h s1 vs ws ap us H1 I1 r1 r2 q
end
end Y
end
section
set_option Elab.async false
set_option linter.all false
set_option maxRecDepth 100000
set_option maxHeartbeats 2000000
set_option autoImplicit false
/-! Y5f: calls by their heads. -/
namespace Y
open PySem PySem.Spec L2
variable {ad : Ad} {K : PySem.W.Frag} {G G' G1 G2 H H' H1 H2 : Hp}
/-- an expression whose attribute is read plainly -/
def baseC : Expr → Bool
  | .Call (.Name id _) [] [] _ => !(id == ("super" : Str))
  | _ => true
theorem base_eq {o : Expr} {m : Str} {env : Env} {t : Sem Value} (h : baseC o = true) : attributeBase o m env t = t := by
  unfold baseC at h
  unfold attributeBase
  split at h
  · rename_i id p q
    dsimp only
    rw [if_pos]
    simp only [Bool.not_eq_true', beq_eq_false_iff_ne, ne_eq] at h
    simp [bne, h]
  · rename_i hno
    split
    · rename_i id p q
      exact absurd rfl (hno id p q)
    · rfl
section
variable {M : Model} {A : Around} {E : Value → Shared → Prop} {s : Shared}
theorem meth_node {o : Expr} {m : Str} {env : Env} {apos pos : Pos} {args : List Expr} {kws : List Keyword} {Q : Value → Shared → Prop} (hb : baseC o = true)
    (hf : methodCallForm (args.length + kws.length) (backTo pos (starEach args env)) (backToKw pos (keywordEach kws env)) = true) (hl : (apos.endLine == pos.line) = true)
    (h : wpAny M A (eval o env) (fun ov s1 => ∀ pl, wpAny M A (getMethod ov m pl) (fun fx s2 => wpAny M A (callWith pos fx.1 fx.2 (backTo pos (starEach args env)) (backToKw pos (keywordEach kws env))) Q E s2) E s1) E s) :
    wpAny M A (eval (.Call (.Attribute o m apos) args kws pos) env) Q E s := by
  rw [eval]
  rw [base_eq hb]
  refine wpAny_bind (wpAny_mono h (fun ov s1 h1 => wpAny_bind (wpAny_standAt ?_)) fun _ _ x => x)
  unfold methodCall calleeOf methodCallPos
  rw [hf, hl]
  simp only [if_true, Bool.not_true, Bool.false_or]
  refine wpAny_bind (wpAny_holding (wpAny_mono (h1 _) (fun fx s2 h2 => wpAny_bind (wpAny_pure h2)) fun _ _ x => x))
end
section
variable {X : Cx} {W : WX} {cf : Cf} {pos apos : Pos} {σ : St} {st ls : List Bool} {ies : List IE} {ss : List Src} {rs : Option (Nat × Nat)} {es : List Expr} {kws : List Keyword} {ns : List Str} {np : Nat} {d : SgD} {key x : Str} {p : Pos}
theorem ev_key {h : CH} {ρ ρ0 : Fr} {k : Str} {pre : List OV} (e : evHd cf h ρ = .ok (.key k pre) ρ0) : evE cf (.cal h st ls ies ss rs) ρ = calR cf k pre st ls ies ss rs ρ0 := by
  simp only [evE, e]
  rfl
/-- a def by its name -/
theorem se_fn (F : FnG ad X cf true key d) (hg : Gl X x) (hm : X.mg x = some (.ref (ad.nm.fn key))) (hk : PySem.W.keepIn X.K (.ref (ad.nm.fn key)) = true) (tk : Takes X W) (hall : (backToKw pos (keywordEach kws X.env)).all (·.1.isSome) = true) (ha : SQs ad X W es kws ns st np (evX cf st ls ies)) (hc : calC d 0 np st ns ss rs = true) (hl : ies.length = np + ns.length) (hdb : (x == ("__debug__" : Str)) = false) :
    SE ad X W (.Call (.Name x p) es kws pos) (evE cf (.cal (.fn key) st ls ies ss rs)) := by
  obtain ⟨k, fd, dflV, kwdV, F, S, hd, hr⟩ := F.ex
  refine ⟨fun pins s σ H Q I hq => ?_⟩
  obtain ⟨ρ, G, c, sl, hh, hq⟩ := hq
  rw [ev_key (ρ0 := ρ) (k := key) (pre := []) (by simp only [evHd])] at hq
  refine wpAny_Call_Name_kw (ld_glob I hg hm ?_ hdb)
  refine cal_node (P := X.K.In) ha hall (PySem.W.keeps_K hk) I (fin_cal (preV := []) hd hc hl sl hh .nil hq) fun s1 vs ws us uw H1 I1 r1 r2 q => ⟨I1.kIn, ?_⟩
  exact wpAny_call (after tk I1 (run_fnU (preV := []) (preU := []) F S ((hr rfl).mono (Nat.le_succ _)) I1.env0 .nil r1 r2 q))
/-- an own instance's def -/
theorem getmeth_obj {nm : Nm} {a g : Addr} {k : CK} {vs : List V} {m : Str} {pins : List (Addr × Obj)} {s : Shared} {A : Around} {E : Value → Shared → Prop} {pl : Sem Bool} {Q : Value × List Value → Shared → Prop} (I : Inv X pins σ H s) (O : ObjAt nm X.K H a k vs) (hm : Meth X.K (nm.fn k.cls) m g) (hn : m ∉ k.fn)
    (q : Q (.ref g, [.ref a]) s) : wpAny (model X.prog X.w) A (getMethod (.ref a) m pl) Q E s := by
  obtain ⟨ox, od, J, _, hl⟩ := O.inst I
  refine PySem.W.method_fn I.kIn J (PySem.W.plainGet_of (show PySem.W.plainGet X.K (nm.fn k.cls) m = true from O.ck.pg)).1 (PySem.W.plainGet_of (show PySem.W.plainGet X.K (nm.fn k.cls) m = true from O.ck.pg)).2 hm.at_ (beq_iff_eq.mp hm.fn) ?_ q
  show (PySem.W.lookIn m od).map (·.isSome) = some false
  rw [hl m hn]
  rfl
/-- e.m(..) -/
theorem methOf_some {p : PV} {m : Str} {h : HR} (e : methOf p m = some h) : (∃ o K fs k, p = .obj o K fs ∧ m ∉ K.fn ∧ K.ms.lookup m = some (.df k) ∧ h = .key k [.vl p]) ∨ (∃ K k, p = .cl K ∧ K.ms.lookup m = some (.cm k) ∧ h = .key k [.vl p]) ∨ (∃ K k, p = .cl K ∧ K.ms.lookup m = some (.sm k) ∧ h = .key k []) := by
  cases p <;> first
    | cases e
    | skip
  · rename_i o K fs
    unfold methOf at e
    dsimp only at e
    split at e
    · rename_i k e1 e2
      cases e
      exact .inl ⟨_, _, _, _, rfl, (fun z => by rw [List.contains_iff_mem.mpr z] at e1; exact Bool.noConfusion e1), e2, rfl⟩
    · cases e
  · rename_i K
    unfold methOf at e
    dsimp only at e
    split at e
    · rename_i k e1
      cases e
      exact .inr (.inl ⟨_, _, rfl, e1, rfl⟩)
    · rename_i k e1
      cases e
      exact .inr (.inr ⟨_, _, rfl, e1, rfl⟩)
    · cases e
/-- the defs that a name may stand for -/
def MthOk (ad : Ad) (X : Cx) (cf : Cf) (st : List Bool) (np : Nat) (ns : List Str) (ss : List Src) (rs : Option (Nat × Nat)) (m : Str) (cs : Option (List Str)) : Prop :=
  ∀ (K : CK) (r : MR), CkOk ad.nm X.K K → fitC cs (.cl K) = true → K.ms.lookup m = some r → match r with
    | .df k => ∃ d, FnG ad X cf true k d ∧ calC d 1 np st ns ss rs = true
    | .cm k => ∃ d, FnG ad X cf true k d ∧ calC d 1 np st ns ss rs = true
    | .sm k => ∃ d, FnG ad X cf true k d ∧ calC d 0 np st ns ss rs = true
    | _ => True
theorem fitC_frz {cs : Option (List Str)} {p : PV} : fitC cs p.frz = fitC cs p := by
  cases cs with
  | none => rfl
  | some cs => cases p <;> rfl
theorem se_mth {o : Expr} {m : Str} {ie : IE} (he : SE ad X W o (evE cf ie)) (hb : baseC o = true) {cs : Option (List Str)} (hM : MthOk ad X cf st np ns ss rs m cs) (tk : Takes X W) (hall : (backToKw pos (keywordEach kws X.env)).all (·.1.isSome) = true) (ha : SQs ad X W es kws ns st np (evX cf st ls ies)) (hl : ies.length = np + ns.length)
    (hf : methodCallForm (es.length + kws.length) (backTo pos (starEach es X.env)) (backToKw pos (keywordEach kws X.env)) = true) (hln : (apos.endLine == pos.line) = true) :
    SE ad X W (.Call (.Attribute o m apos) es kws pos) (evE cf (.cal (.mth ie m cs) st ls ies ss rs)) := by
  refine ⟨fun pins s σ H Q I hq => ?_⟩
  obtain ⟨ρ, G, c, sl, hh, hq⟩ := hq
  refine meth_node hb hf hln (thn (he.run pins s σ H (fun v H1 => ∃ (ρ1 : Fr) (G1 : Hp) (c1 : List Cell) (k : Str) (pre : List OV) (p : PV), Slots ad X.K G1 ρ1 σ c1 ∧ Hold G1 c1 H1 ∧ Rep ad X.K G1 p v [] ∧ fitC cs p = true ∧ methOf p m = some (.key k pre) ∧ Aft ad X.K W σ (RelP ad X.K) G1 c1 H1 Q (calR cf k pre st ls ies ss rs ρ1)) I ⟨ρ, G, c, sl, hh, ?_⟩) fun u s1 ⟨v, H1, I1, rv, ρ1, G1, c1, k, pre, p, sl1, h1, rp, fc, em, q1⟩ pl => ?_)
  · cases e : evE cf ie ρ with
    | bad =>
      simp only [evE, evHd, e, Res.bind] at hq
      exact hq
    | ex x ρ1 =>
      simp only [evE, evHd, e, Res.bind] at hq
      exact hq
    | ok p ρ1 =>
      cases e5 : fitC cs p with
      | false =>
        simp only [evE, evHd, e, Res.bind, e5] at hq
        exact hq.elim
      | true =>
      cases e2 : methOf p.frz m with
      | none =>
        simp only [evE, evHd, e, Res.bind, e2, e5] at hq
        exact hq.elim
      | some h =>
        have e4 : evHd cf (.mth ie m cs) ρ = .ok h ρ1 := by simp only [evHd, e, Res.bind, e2, e5]
        intro v H1 G1 c1 t s1 sl1 h1 r
        have hkey : ∃ k pre, h = .key k pre := by
          rcases methOf_some e2 with ⟨_, _, _, _, _, _, _, z⟩ | ⟨_, _, _, _, z⟩ | ⟨_, _, _, _, z⟩ <;> exact ⟨_, _, z⟩
        obtain ⟨k, pre, rfl⟩ := hkey
        rw [ev_key e4] at hq
        exact ⟨ρ1, addc G1 t, c1, k, pre, p.frz, sl1.mono (addc_sub h1.right), h1.absorb, Rep.absorb h1 r, by rw [fitC_frz]; exact e5, e2, Aft.go hq (s1.absorb h1) h1.absorb⟩
  · rcases methOf_some em with ⟨o', K', fs, k', rfl, hn, hlk, e3⟩ | ⟨K', k', rfl, hlk, e3⟩ | ⟨K', k', rfl, hlk, e3⟩
    · cases e3
      obtain ⟨a, vs0, d0, rfl, O, _, _⟩ := (rp.vw (c := c1)).obj h1
      cases (show u = Value.ref a from rv)
      obtain ⟨d, F, hc⟩ := hM K' _ O.ck (by cases cs <;> exact fc) hlk
      obtain ⟨kk, fd, dflV, kwdV, F, S, hd, hr⟩ := F.ex
      have ms : Meth X.K (ad.nm.fn K'.cls) m (ad.nm.fn k) ∧ _ := O.ck.ms _ _ hlk
      refine getmeth_obj I1 O ms.1 hn ?_
      have hp : OVals ad X.K σ G1 [.vl (.obj o' K' fs)] [.ref a] := .cons rp .nil
      refine cal_node (first := [.ref a]) (P := X.K.In) ha hall (PySem.W.keeps_K ms.1.kp) I1 (fin_cal (preV := [.ref a]) hd hc hl sl1 h1 hp q1) fun s2 vs ws us uw H2 I2 r1 r2 q => ⟨I2.kIn, ?_⟩
      exact wpAny_call (after tk I2 (run_fnU (preV := [.ref a]) (preU := [.ref a]) F S ((hr rfl).mono (Nat.le_succ _)) I2.env0 (.cons rfl .nil) r1 r2 q))
    · cases e3
      obtain ⟨ev, ck⟩ := (rp.vw (c := c1)).cl
      subst ev
      cases (show u = Value.ref _ from rv)
      obtain ⟨d, F, hc⟩ := hM K' _ ck (by cases cs <;> exact fc) hlk
      obtain ⟨kk, fd, dflV, kwdV, F, S, hd, hr⟩ := F.ex
      obtain ⟨mc, pa, rd_, cm⟩ := ck.ms _ _ hlk
      refine ClX.getmethcm_ok I1 rd_ cm fun s2 I2 => ?_
      have hp : OVals ad X.K σ G1 [.vl (.cl K')] [.ref (ad.nm.fn K'.cls)] := .cons rp .nil
      have hmp : ∀ (s3 : Shared) (H3 : Hp), Inv X ((s1.heap.objs.size, PySem.W.methodObj (.ref (ad.nm.fn k)) (.ref (ad.nm.fn K'.cls))) :: pins) σ H3 s3 → PySem.W.MethP X.K s1.heap.objs.size (ad.nm.fn k) (.ref (ad.nm.fn K'.cls)) s3.heap := fun s3 H3 I3 => ⟨ClX.pin_at I3, I3.kIn⟩
      refine thn (cal_node (first := []) (P := PySem.W.MethP X.K s1.heap.objs.size (ad.nm.fn k) (.ref (ad.nm.fn K'.cls))) ha hall (PySem.W.keeps_M cm.fi) I2 (fin_cal (preV := [.ref (ad.nm.fn K'.cls)]) hd hc hl sl1 h1 hp q1) fun s3 vs ws us uw H3 I3 r1 r2 q => ⟨hmp _ _ I3, ?_⟩) fun _ _ y => ClX.unpinE y
      exact wpAny_call (PySem.W.method_call (ClX.pin_at I3) (after tk I3 (run_fnU (preV := [.ref (ad.nm.fn K'.cls)]) (preU := [.ref (ad.nm.fn K'.cls)]) F S ((hr rfl).mono (Nat.le_succ _)) I3.env0 (.cons rfl .nil) r1 r2 q)))
    · cases e3
      obtain ⟨ev, ck⟩ := (rp.vw (c := c1)).cl
      subst ev
      cases (show u = Value.ref _ from rv)
      obtain ⟨d, F, hc⟩ := hM K' _ ck (by cases cs <;> exact fc) hlk
      obtain ⟨kk, fd, dflV, kwdV, F, S, hd, hr⟩ := F.ex
      obtain ⟨mc, pa, rest, rd_, fc2, rc, kp⟩ := ck.ms _ _ hlk
      refine PySem.W.method_cls I1.kIn rd_.ga (PySem.W.cls_bind I1.kIn rd_.rd fc2 (wpAny_call (PySem.W.sm_get (s := { s1 with toks := s1.toks + 1 }) I1.kIn rc (PySem.W.handed_on rfl ?_))))
      have I2 : Inv X pins σ H1 { s1 with toks := s1.toks + 1 } := I1.tok _
      refine cal_node (first := []) (P := X.K.In) ha hall (PySem.W.keeps_K kp) I2 (fin_cal (preV := []) hd hc hl sl1 h1 .nil q1) fun s3 vs ws us uw H3 I3 r1 r2 q => ⟨I3.kIn, ?_⟩
      exact wpAny_call (after tk I3 (run_fnU (preV := []) (preU := []) F S ((hr rfl).mono (Nat.le_succ _)) I3.env0 .nil r1 r2 q))
end
end Y
end
section
set_option Elab.async false
set_option linter.all false
set_option maxRecDepth 100000
set_option maxHeartbeats 2000000
set_option autoImplicit false
/-! Y5g: instances are made. -/
namespace Y
open PySem PySem.Spec L2
variable {ad : Ad} {K : PySem.W.Frag} {G G' G1 G2 H H' H1 H2 : Hp}
theorem objH_nil {C a dx : Addr} {k : CK} : objH C a dx k [] = .ins C dx [] := by
  unfold objH
  cases k.sl with
  | none => simp
  | some ps => rfl
theorem dicH_nil {a : Addr} {k : CK} : dicH a k [] = .own a := by
  unfold dicH
  cases k.sl <;> rfl
section
variable {X : Cx} {W : WX} {cf : Cf} {pos : Pos} {σ : St} {st ls : List Bool} {ies : List IE} {ss : List Src} {rs : Option (Nat × Nat)} {es : List Expr} {kws : List Keyword} {ns : List Str} {np : Nat} {d : SgD} {key x : Str} {p : Pos}
/-- the new instance is handed to its __init__ -/
theorem fin_new_call {k : Str} {kk : CK} {ρ : Fr} {c t : List Cell} {as : List (PV × Option Nat)} {a : Addr} {vs : List V} {Q : VK} (h : Aft ad X.K W σ (RelP ad X.K) G c H Q (callNew cf k kk as ρ)) {c1 n : List Cell} (s0 : Step G c H G1 ((n ++ t) ++ c1) H1) (sl : Slots ad X.K G1 ρ σ c1) (hh : Hold G1 ((n ++ t) ++ c1) H1)
    (ho : Rep ad X.K G1 (.obj true kk []) (.ref a) n) (hr : RepL ad X.K G1 (as.map (·.1)) vs t) (hl : LentTo σ (as.map (·.2)) vs) : SpOf ad.base X.K (cf.call k) (.ref a :: vs) H1 (fun v H2 => v = .non ∧ Q (.ref a) H2) fun cls dd H' => W cls dd σ H' := by
  refine ⟨.obj true kk [] :: as.map (·.1), G1, n ++ t, .cons ho.toB hr.toB, hh.left, ?_⟩
  unfold callNew at h
  cases e : cf.call k (.obj true kk [] :: as.map (·.1)) with
  | bad => rw [e] at h; exact h
  | ok r as' =>
    rw [e] at h
    cases r <;> first
      | exact h.elim
      | skip
    cases as' with
    | nil => exact h.elim
    | cons q as' =>
      cases q with
      | none => exact h.elim
      | some q =>
        dsimp only at h
        intro v H2 G2 c2 t2 s2 sl2 h2 hr2
        cases hr2
        refine ⟨rfl, ?_⟩
        cases sl2 with
        | @some _ _ _ _ dq cq rq sq =>
          obtain ⟨g, c3, q1, q2⟩ := give_slots hl (sl.mono s2.fz) sq.ofB
          have f1 := hh.frame s2 h2
          have f2 := s0.frame s2 hh
          have pm : (((dq ++ cq) ++ []) ++ c1).Perm (g ++ (c3 ++ dq)) := by
            rw [List.append_nil]
            have q3 : (cq ++ c1).Perm (g ++ c3) := List.perm_append_comm.trans q2
            rw [List.append_assoc]
            exact (q3.append_left dq).trans (List.perm_append_comm.trans (by rw [List.append_assoc]))
          exact h (.ref a) H2 G2 c3 dq ((f2.perm (List.Perm.refl _) pm).less fun z hz => List.mem_append_right _ hz) q1 (f1.perm pm).right rq.ofB
  | ex x as' =>
    rw [e] at h
    cases as' with
    | nil => exact h.elim
    | cons q as' =>
      dsimp only at h
      intro dd H2 G2 c2 s2 sl2 h2 hx
      have key : ∃ dq cq, Slots0 ad.base X.K G2 as' (vs.map some) cq ∧ c2 = dq ++ cq := by
        cases sl2 with
        | none sq => exact ⟨[], _, sq, rfl⟩
        | some rq sq => exact ⟨_, _, sq, rfl⟩
      obtain ⟨dq, cq, sq, ec⟩ := key
      subst ec
      obtain ⟨g, c3, q1, q2⟩ := give_slots hl (sl.mono s2.fz) sq.ofB
      have f1 := hh.frame s2 h2
      have f2 := s0.frame s2 hh
      have pm : ((dq ++ cq) ++ c1).Perm ((dq ++ g) ++ c3) := by
        have q3 : (cq ++ c1).Perm (g ++ c3) := List.perm_append_comm.trans q2
        rw [List.append_assoc, List.append_assoc]
        exact q3.append_left dq
      exact h dd H2 G2 c3 ((f2.perm (List.Perm.refl _) pm).less fun z hz => List.mem_append_right _ hz) q1 (f1.perm pm).right hx.ofB
/-- the arguments' part of a class' call -/
def newR (cf : Cf) (key : Str) (kk : CK) (st ls : List Bool) (es : List IE) (ss : List Src) (rs : Option (Nat × Nat)) (ρ : Fr) : Res PV := (evX cf st ls es ρ).bind fun os ρ1 => match bindO st ss rs os with
  | some os => (match takeA os ρ1 with
    | some z => callNew cf key kk z.1 z.2
    | none => .bad)
  | none => .bad
/-- a new instance and its dict -/
def madeH (C : Addr) (H : Hp) (x dx : Addr) : Hp := upd (upd H dx (.own x)) x (.ins C dx [])
def FinN (ad : Ad) (X : Cx) (W : WX) (cf : Cf) (d : SgD) (dflV : List V) (kwdV : List (Str × V)) (ns : List Str) (key : Str) (C : Addr) (σ : St) (vs ws : List V) (H : Hp) (Q : VK) : Prop :=
  ∀ x dx, H x = none → H dx = none → dx ≠ x → FinC ad X W cf d dflV kwdV ns key σ [.ref x] vs ws (madeH C H x dx) fun v H2 => v = .non ∧ Q (.ref x) H2
theorem fin_new {kk : CK} {dflV : List V} {kwdV : List (Str × V)} {ρ : Fr} {c : List Cell} {Q : VK}
    (ck : CkOk ad.nm X.K kk) (hd : DflR d dflV kwdV) (hc : calC d 1 np st ns ss rs = true) (hl : ies.length = np + ns.length) (sl : Slots ad X.K G ρ σ c) (hh : Hold G c H) (h : Aft ad X.K W σ (RelP ad X.K) G c H Q (newR cf key kk st ls ies ss rs ρ)) :
    rd ad X W (RelG ad X.K st np) (evX cf st ls ies) σ H fun z H1 => FinN ad X W cf d dflV kwdV ns key (ad.nm.fn kk.cls) σ z.1 z.2 H1 Q := by
  refine ⟨ρ, G, c, sl, hh, ?_⟩
  unfold newR at h
  cases e : evX cf st ls ies ρ with
  | bad => rw [e] at h; exact h
  | ex x ρ1 => rw [e] at h; exact h
  | ok os ρ1 =>
    rw [e] at h
    simp only [Res.bind] at h
    intro z H1 G1 c1 t s1 sl1 h1 ⟨et, o1, o2, eo, el, hv, hw⟩ a dx hx hdx ne
    subst et
    subst eo
    have hlen := evX_len e
    rw [List.length_append, hl, el] at hlen
    cases e1 : bindO st ss rs (o1 ++ o2) with
    | none => rw [e1] at h; exact h.elim
    | some os' =>
      rw [e1] at h
      dsimp only at h
      cases e2 : takeA os' ρ1 with
      | none => rw [e2] at h; exact h.elim
      | some y =>
        rw [e2] at h
        dsimp only at h
        obtain ⟨n1, n2⟩ := (nilH h1).newO hdx (.own a)
        obtain ⟨n3, n4⟩ := n1.newO (p := a) (by rw [upd_ne (Ne.symm ne)]; exact hx) (.ins (ad.nm.fn kk.cls) dx [])
        have stp : Step G1 c1 H1 G1 ((c1 ++ [((dx, .own a) : Cell)]) ++ [((a, .ins (ad.nm.fn kk.cls) dx []) : Cell)]) (madeH (ad.nm.fn kk.cls) H1 a dx) := n2.trans n4 n1
        obtain ⟨wv, f1, f2, f3⟩ := cal_bind (preV := [.ref a]) hd (by rw [el]; exact hc) hv hw (by rw [ovals_len hw]; omega) e1 sl1 n3
        refine ⟨wv, f1, f2, fun vs' H2 hb => ?_⟩
        obtain ⟨G2, v2, ev, hov, sl2, stp2, hh2⟩ := f3 vs' H2 hb
        subst ev
        obtain ⟨c', t', s', r', l', p'⟩ := take_ok hov sl2 e2
        have ho : Rep ad X.K G2 (.obj true kk []) (.ref a) ([((a, .ins (ad.nm.fn kk.cls) dx []) : Cell), ((dx, .own a) : Cell)] ++ []) := by
          have := Rep.objO (ad := ad) (K := X.K) (G := G2) (a := a) (dx := dx) (k := kk) (xs := []) (vs := []) (cs := []) ck ne (Nat.zero_le _) .nil
          rw [objH_nil, dicH_nil] at this
          exact this
        have pm : ((c1 ++ [((dx, .own a) : Cell)]) ++ [((a, .ins (ad.nm.fn kk.cls) dx []) : Cell)]).Perm ((([((a, .ins (ad.nm.fn kk.cls) dx []) : Cell), ((dx, .own a) : Cell)] ++ []) ++ t') ++ c') := by
          rw [List.append_nil]
          refine ((p'.append_right _).append_right _).trans ?_
          rw [List.append_assoc (c' ++ t')]
          refine List.perm_append_comm.trans ?_
          rw [List.append_assoc [((a, .ins (ad.nm.fn kk.cls) dx []) : Cell), ((dx, .own a) : Cell)]]
          refine List.Perm.append ?_ List.perm_append_comm
          exact List.Perm.swap _ _ _
        exact fin_new_call h (((nilL s1).trans (stp.trans stp2 n3) (nilH h1)).perm (List.Perm.refl _) pm) s' (hh2.perm pm) ho r' l'
theorem run_new {kk : CK} {k : Nat} {fd : FuncData} {dflV vs ws : List V} {kwdV : List (Str × V)} {pins : List (Addr × Obj)} {s : Shared} {Q : VK} {us uw : List Value} (ck : CkOk ad.nm X.K kk) (hi : kk.ms.lookup ("__init__" : Str) = some (.df key))
    (F : FnU X.prog X.w X.K X.mg X.base (L2.CX X.prog X.w) k (ad.nm.fn key) fd d.g.ps (SpOf ad.base X.K (cf.call key))) (S : SigOk X.K fd d.g dflV kwdV) (hr : Room (k + 1) X.A) (tk : Takes X W) (I : Inv X pins σ H s) (r : Vals vs us) (rw_ : Vals ws uw)
    (h : FinN ad X W cf d dflV kwdV ns key (ad.nm.fn kk.cls) σ vs ws H Q) : wpAny (model X.prog X.w) X.A (call (.ref (ad.nm.fn kk.cls)) us (ns.zip uw)) (EP X pins σ Q) X.xe s := by
  have hq := h (s.heap.objs.size + 1) s.heap.objs.size (I.hok.fresh (Nat.le_succ _)) (I.hok.fresh (Nat.le_refl _)) (Nat.ne_of_lt (Nat.lt_succ_self _))
  have I2 := Inv.made (C := ad.nm.fn kk.cls) I
  have ms : Meth X.K (ad.nm.fn kk.cls) "__init__" (ad.nm.fn key) ∧ _ := ck.ms _ _ hi
  refine wpAny_call (make_map (f := ad.nm.fn key) I.kIn ck.mki ms.1.at_ (beq_iff_eq.mp ms.1.fn) (codeAny_mono (run_fnU (preV := [.ref (s.heap.objs.size + 1)]) (preU := [.ref (s.heap.objs.size + 1)]) F S (hr.make (ad.nm.fn kk.cls) us (ns.zip uw)) (I2.env0.make (ad.nm.fn kk.cls) us (ns.zip uw)) (.cons rfl .nil) r rw_ hq) fun r s' hq' => ?_))
  cases r with
  | error e => exact tk e s' (XE.of_call I2 (fun _ _ _ z => z) hq')
  | ok fl =>
    cases fl with
    | ret u =>
      obtain ⟨v, H', I3, rv, ev, q3⟩ := I2.after hq'
      subst ev
      exact ⟨rv, ⟨V.ref (s.heap.objs.size + 1), H', I3, rfl, q3⟩⟩
    | next => exact False.elim hq'
    | brk => exact False.elim hq'
    | cont => exact False.elim hq'
end
end Y
end
section
set_option Elab.async false
set_option linter.all false
set_option maxRecDepth 100000
set_option maxHeartbeats 2000000
set_option autoImplicit false
/-! Y5h: classes called, fields read. -/
namespace Y
open PySem PySem.Spec L2
variable {ad : Ad} {K : PySem.W.Frag} {G G' G1 G2 H H' H1 H2 : Hp}
section
variable {X : Cx} {W : WX} {cf : Cf} {pos : Pos} {σ : St} {st ls : List Bool} {ies : List IE} {ss : List Src} {rs : Option (Nat × Nat)} {es : List Expr} {kws : List Keyword} {ns : List Str} {np : Nat} {d : SgD} {key x f : Str} {p : Pos}
theorem ev_mk {h : CH} {ρ ρ0 : Fr} {k : Str} {kk : CK} (e : evHd cf h ρ = .ok (.mk k kk) ρ0) : evE cf (.cal h st ls ies ss rs) ρ = newR cf k kk st ls ies ss rs ρ0 := by
  simp only [evE, e]
  rfl
theorem initOf_some {kk : CK} {k : Str} (h : initOf kk = some k) : kk.ms.lookup ("__init__" : Str) = some (.df k) := by
  unfold initOf at h
  split at h
  · rename_i k' e
    cases h
    exact e
  · cases h
/-- the class whose name stands there -/
def NewOk (ad : Ad) (X : Cx) (cf : Cf) (st : List Bool) (np : Nat) (ns : List Str) (ss : List Src) (rs : Option (Nat × Nat)) (kk : CK) : Prop :=
  ∀ k, initOf kk = some k → ∃ d, FnG ad X cf true k d ∧ calC d 1 np st ns ss rs = true
theorem node_new {kk : CK} {k : Str} {pins : List (Addr × Obj)} {s : Shared} {Q : VK} (ck : CkOk ad.nm X.K kk) (hi : initOf kk = some k) (hN : NewOk ad X cf st np ns ss rs kk) (tk : Takes X W) (hall : (backToKw pos (keywordEach kws X.env)).all (·.1.isSome) = true) (ha : SQs ad X W es kws ns st np (evX cf st ls ies)) (hl : ies.length = np + ns.length)
    (I : Inv X pins σ H s) {ρ : Fr} {c : List Cell} (sl : Slots ad X.K G ρ σ c) (hh : Hold G c H) (hq : Aft ad X.K W σ (RelP ad X.K) G c H Q (newR cf k kk st ls ies ss rs ρ)) :
    wpAny (model X.prog X.w) X.A (callWith pos (.ref (ad.nm.fn kk.cls)) [] (backTo pos (starEach es X.env)) (backToKw pos (keywordEach kws X.env))) (EP X pins σ Q) X.xe s := by
  obtain ⟨d, F, hc⟩ := hN k hi
  obtain ⟨j, fd, dflV, kwdV, F, S, hd, hr⟩ := F.ex
  refine cal_node (first := []) (P := X.K.In) ha hall (PySem.W.keeps_K ck.kp) I (fin_new ck hd hc hl sl hh hq) fun s1 vs ws us uw H1 I1 r1 r2 q => ⟨I1.kIn, ?_⟩
  exact run_new ck (initOf_some hi) F S (hr rfl) tk I1 r1 r2 q
theorem se_new {kk : CK} (ck : CkOk ad.nm X.K kk) (hg : Gl X x) (hm : X.mg x = some (.ref (ad.nm.fn kk.cls))) (hN : NewOk ad X cf st np ns ss rs kk) (tk : Takes X W) (hall : (backToKw pos (keywordEach kws X.env)).all (·.1.isSome) = true) (ha : SQs ad X W es kws ns st np (evX cf st ls ies)) (hl : ies.length = np + ns.length) (hdb : (x == ("__debug__" : Str)) = false) :
    SE ad X W (.Call (.Name x p) es kws pos) (evE cf (.cal (.new kk) st ls ies ss rs)) := by
  refine ⟨fun pins s σ H Q I hq => ?_⟩
  obtain ⟨ρ, G, c, sl, hh, hq⟩ := hq
  cases hi : initOf kk with
  | none =>
    simp only [evE, evHd, hi, Res.bind] at hq
    exact hq.elim
  | some k =>
    rw [ev_mk (ρ0 := ρ) (k := k) (kk := kk) (by simp only [evHd, hi])] at hq
    exact wpAny_Call_Name_kw (ld_glob I hg hm (node_new ck hi hN tk hall ha hl I sl hh hq) hdb)
/-- .. by a name that holds it -/
theorem se_newv {i : Nat} {kk : CK} (hx : ∀ pos, PE X (.Name x pos) (tVar i)) (hN : NewOk ad X cf st np ns ss rs kk) (tk : Takes X W) (hall : (backToKw pos (keywordEach kws X.env)).all (·.1.isSome) = true) (ha : SQs ad X W es kws ns st np (evX cf st ls ies)) (hl : ies.length = np + ns.length) :
    SE ad X W (.Call (.Name x p) es kws pos) (evE cf (.cal (.newv i kk) st ls ies ss rs)) := by
  refine ⟨fun pins s σ H Q I hq => ?_⟩
  obtain ⟨ρ, G, c, sl, hh, hq⟩ := hq
  have key : ∃ k, ρ.at i = some (.cl kk) ∧ initOf kk = some k ∧ evHd cf (.newv i kk) ρ = .ok (.mk k kk) ρ := by
    cases h1 : ρ.at i with
    | none => simp only [evE, evHd, h1, Res.bind] at hq; exact hq.elim
    | some q =>
      cases q <;> first
        | (simp only [evE, evHd, h1, Res.bind] at hq; exact hq.elim)
        | skip
      rename_i k'
      by_cases hk : kk = k'
      · subst hk
        cases h2 : initOf kk with
        | none =>
          simp only [evE, evHd, h1, h2, Res.bind, decide_true] at hq
          exact hq.elim
        | some k => exact ⟨k, rfl, rfl, by simp only [evHd, h1, h2, decide_true]⟩
      · simp only [evE, evHd, h1, Res.bind, decide_eq_false hk] at hq
        exact hq.elim
  obtain ⟨k, h1, hi, h2⟩ := key
  rw [ev_mk h2] at hq
  obtain ⟨v, dd, r, e1, e2, e3, e4⟩ := sl.out h1
  cases e2 with
  | cl ck =>
    refine wpAny_Call_Name_kw (thn ((hx p).run pins s σ H (fun v H1 => v = .ref (ad.nm.fn kk.cls) ∧ H1 = H) I ⟨_, e1, rfl, rfl⟩) fun u s1 ⟨v, H1, I1, r1, q1, q2⟩ => ?_)
    subst q1 q2
    cases (show u = Value.ref _ from r1)
    exact node_new ck hi hN tk hall ha hl I1 sl hh hq
/-! ### fields -/
theorem idx_get {fn : List Str} {f : Str} {i : Nat} (h : fn.idxOf? f = some i) : fn[i]? = some f := by
  rw [List.idxOf?_eq_some_iff] at h
  obtain ⟨hi, e, _⟩ := h
  rw [List.getElem?_eq_getElem hi]
  simpa using e
theorem zip_look {β : Type} : ∀ {fn : List Str} {vs : List β} {i : Nat} {f : Str} {v : β}, fn.Nodup → fn[i]? = some f → vs[i]? = some v → (fn.zip vs).lookup f = some v
  | [], _, i, _, _, _, h, _ => by simp at h
  | _ :: _, [], i, _, _, _, _, h => by simp at h
  | g :: fn, y :: vs, 0, f, v, nd, h1, h2 => by
    cases h1
    cases h2
    simp [List.zip_cons_cons, List.lookup_cons]
  | g :: fn, y :: vs, i + 1, f, v, nd, h1, h2 => by
    have h1' : fn[i]? = some f := by simpa using h1
    have hne : (f == g) = false := by
      simp only [beq_eq_false_iff_ne, ne_eq]
      intro e
      subst e
      exact (List.nodup_cons.mp nd).1 (List.mem_of_getElem? h1')
    rw [List.zip_cons_cons, List.lookup_cons, hne]
    exact zip_look (List.nodup_cons.mp nd).2 h1' (by simpa using h2)
theorem zip_none {β : Type} {fn : List Str} {vs : List β} {f : Str} (h : f ∉ fn) : (fn.zip vs).lookup f = none := by
  rw [List.lookup_eq_none_iff]
  intro p hp
  have h3 := (List.of_mem_zip (a := p.1) (b := p.2) hp).1
  by_cases z : f = p.1
  · exact absurd (z ▸ h3) h
  · simpa using z
/-- the slots behind the fields' stores -/
theorem foldS_get : ∀ (l : List (Nat × V)) (acc : List (Option V)) (i : Nat) (v : V), (∀ z ∈ l, z.1 ≠ i) → acc[i]? = some (some v) → (l.foldl (fun acc z => SlX.putS z.1 z.2 acc) acc)[i]? = some (some v)
  | [], _, _, _, _, h => h
  | z :: l, acc, i, v, hn, h => foldS_get l _ i v (fun y hy => hn y (List.mem_cons_of_mem _ hy)) ((SlX.putS_ne (Ne.symm (hn z List.mem_cons_self))).mpr h)
theorem slotV_get : ∀ {ps : List Nat} {vs : List V} {j i : Nat} {v : V} (acc : List (Option V)), ps.Nodup → ps[j]? = some i → vs[j]? = some v → ((ps.zip vs).foldl (fun acc z => SlX.putS z.1 z.2 acc) acc)[i]? = some (some v)
  | [], _, j, _, _, _, _, h, _ => by simp at h
  | _ :: _, [], j, _, _, _, _, _, h => by simp at h
  | p :: ps, y :: vs, 0, i, v, acc, nd, h1, h2 => by
    cases h1
    cases h2
    refine foldS_get (ps.zip vs) (SlX.putS p y acc) p y (fun z hz e => ?_) (SlX.putS_get _ _ _)
    have := (List.of_mem_zip (a := z.1) (b := z.2) hz).1
    rw [e] at this
    exact (List.nodup_cons.mp nd).1 this
  | p :: ps, y :: vs, j + 1, i, v, acc, nd, h1, h2 => slotV_get (ps := ps) (vs := vs) (j := j) _ (List.nodup_cons.mp nd).2 (by simpa using h1) (by simpa using h2)
variable {nm : Nm} {a : Addr} {k : CK} {vs : List V} {pins : List (Addr × Obj)} {s : Shared}
theorem ObjAt.get (O : ObjAt nm X.K H a k vs) (I : Inv X pins σ H s) {A : Around} {E : Value → Shared → Prop} {b : Bool} {Q : Value → Shared → Prop} {i : Nat} {v : V} (h1 : k.fn[i]? = some f) (h2 : vs[i]? = some v) (q : ∀ u s', Inv X pins σ H s' → RelV v u → Q u s') :
    wpAny (model X.prog X.w) A (getAttr (.ref a) f b) Q E s := by
  have sh := O.ck.shape
  cases h : k.sl with
  | none =>
    rw [h] at sh
    obtain ⟨dx, n, e1, e2⟩ := O.ex
    rw [objH_dict h] at e1
    exact getattr_ok I e1 sh.1 (sh.2 f (List.mem_of_getElem? h1)) (zip_look O.ck.nd h1 h2) q
  | some ps =>
    rw [h] at sh
    obtain ⟨dx, n, hs⟩ := O.slt h
    obtain ⟨c, hl, nd, hp⟩ := sh
    have hi := (List.getElem?_eq_some_iff.mp h1).1
    have h3 : ps[i]? = some ps[i] := List.getElem?_eq_getElem (by omega)
    obtain ⟨p, sp⟩ := hp i f _ h1 h3
    exact SlX.getslot_ok I hs c sp (slotV_get [] nd h3 h2) q
/-- a text of its class -/
theorem ObjAt.con (O : ObjAt nm X.K H a k vs) (I : Inv X pins σ H s) {b : Bool} {Q : VK} {z : Str} (hn : f ∉ k.fn) (h1 : k.ms.lookup f = some (.cs z)) (q : ∀ u s', Inv X pins σ H s' → RelV (.str z) u → EP X pins σ Q u s') :
    wpAny (model X.prog X.w) X.A (getAttr (.ref a) f b) (EP X pins σ Q) X.xe s := by
  have sh := O.ck.shape
  obtain ⟨⟨u, co⟩, _⟩ := O.ck.ms _ _ h1
  cases h : k.sl with
  | none =>
    rw [h] at sh
    obtain ⟨dx, n, e1, e2⟩ := O.ex
    rw [objH_dict h] at e1
    exact getcon_ok I e1 sh.1 co (zip_none hn) fun s' I' => q u s' I' co.rel
  | some ps =>
    rw [h] at sh
    obtain ⟨dx, n, hs⟩ := O.slt h
    exact SlX.getcon_sl I hs sh.1 co fun s' I' => q u s' I' co.rel
theorem idx_none {fn : List Str} {f : Str} (h : fn.idxOf? f = none) : f ∉ fn := List.idxOf?_eq_none_iff.mp h
/-- e.f -/
theorem se_fld {e : Expr} {ie : IE} (he : SO ad X W e (opnd ie (evE cf ie))) (hb : baseC e = true) : SE ad X W (.Attribute e f pos) (evE cf (.fld ie f)) := by
  refine ⟨fun pins s σ H Q I hq => ?_⟩
  obtain ⟨ρ, G, c, sl, hh, hq⟩ := hq
  simp only [evE] at hq
  refine attr_of (base_eq hb) (thn (he.run pins s σ H (fun v H1 => ∃ (ρ1 : Fr) (G1 : Hp) (c1 : List Cell) (q r : PV), Slots ad X.K G1 ρ1 σ c1 ∧ Hold G1 c1 H1 ∧ Vw ad X.K G1 c1 q v ∧ fldP q f = some r ∧ Aft ad X.K W σ (RelP ad X.K) G1 c1 H1 Q (.ok r ρ1)) I ⟨ρ, G, c, sl, hh, ?_⟩) fun u s1 ⟨v, H1, I1, rv, ρ1, G1, c1, q, r, sl1, h1, vw, ef, q1⟩ => ?_)
  · refine hq.seq fun o ρ1 v H1 G1 c1 t s1 sl1 h1 ⟨et, hv⟩ k => ?_
    subst et
    have k1 := k.go0 s1 h1
    cases e1 : rsv ρ1 o with
    | none => rw [e1] at k1; exact k1.elim
    | some q =>
      rw [e1] at k1
      dsimp only [Option.bind] at k1
      cases e2 : fldP q f with
      | none => rw [e2] at k1; exact k1.elim
      | some r =>
        rw [e2] at k1
        exact ⟨ρ1, G1, c1, q, r, sl1, nilH h1, OVal.vw hv sl1 e1, e2, k1⟩
  · have fin : ∀ {w : V} {u' : Value} {s2 : Shared}, Inv X pins σ H1 s2 → RelV w u' → Rep ad X.K G1 r w [] → EP X pins σ Q u' s2 := fun I2 ru rr => ⟨_, H1, I2, ru, q1 _ H1 G1 c1 [] (toL Step.refl) sl1 (toH h1) rr⟩
    unfold fldP at ef
    split at ef
    · rename_i o kk fs
      obtain ⟨a, vs, dd, rfl, O, rl, kin⟩ := vw.obj h1
      cases (show u = Value.ref a from rv)
      split at ef
      · rename_i i ei
        split at ef
        · rename_i q' eq
          split at ef
          · rename_i hf
            cases ef
            obtain ⟨w, d2, e3, e4, e5⟩ := rl.get eq
            have := e4.nocell hf
            subst this
            exact O.get I1 (idx_get ei) e3 fun u' s2 I2 ru => fin I2 ru e4
          · cases ef
        · cases ef
      · rename_i ei
        split at ef
        · rename_i z ez
          cases ef
          exact O.con I1 (idx_none ei) ez fun u' s2 I2 ru => fin I2 ru (.str z)
        · cases ef
    · rename_i kk
      obtain ⟨ev, ck⟩ := vw.cl
      subst ev
      cases (show u = Value.ref _ from rv)
      split at ef
      · rename_i z ez
        cases ef
        obtain ⟨_, mc, u', rd_, cv⟩ := ck.ms _ _ ez
        exact ClX.getcval_ok I1 rd_ cv fun s2 I2 => fin I2 cv.rel (.str z)
      · cases ef
    · cases ef
end
end Y
end
section
set_option Elab.async false
set_option linter.all false
set_option maxRecDepth 100000
set_option maxHeartbeats 2000000
set_option autoImplicit false
/-! Y5i: == and in by own defs. -/
namespace Y
open PySem PySem.Spec L2
variable {ad : Ad} {K : PySem.W.Frag} {G G' G1 G2 H H' H1 H2 : Hp}
section
open PySem.W
variable {M : Model} {A : Around} {E : Value → Shared → Prop} {s : Shared} {a C : Addr} {ox : Obj} {od : Option Obj} {f : Addr} {x : Value}
theorem in_own {Q : Value → Shared → Prop} (X : K.In s.heap) (I : InstAt s.heap a ox C od) (hs : findIn K (.ref C) "__contains__" = some (some (.ref f))) (hf : isFn K (.ref f) = true)
    (h : wpAny M A (call (.ref f) [.ref a, x]) (fun v s' => ∃ b, v = .bool b ∧ Q (.bool b) s') E s) : wpAny M A (compareOp .In x (.ref a)) Q E s := by
  show wpAny _ _ (do return .bool (← contains (.ref a) x)) Q E s
  refine wpAny_bind ?_
  unfold contains
  refine wpAny_holding ?_
  have l1 : Looks M s.heap (specialOf (.ref a) "__contains__") (some (.ref f)) := by
    unfold specialOf
    exact I.type.andThen (looks_findIn X hs)
  refine wpAny_bind (l1.here ?_)
  rw [if_neg (by rw [show (some (Value.ref f) == some Value.none) = false from rfl]; exact Bool.false_ne_true)]
  unfold callSpecialUnlessNone?
  refine wpAny_bind (wpAny_bind (l1.here ?_))
  refine wpAny_holding (wpAny_bind ((bind_fn X _ (beq_iff_eq.mp hf)).here ?_))
  dsimp only
  rw [if_neg (by rw [show (Value.ref f == Value.none) = false from rfl]; exact Bool.false_ne_true)]
  refine wpAny_bind (wpAny_mono h (fun v s' ⟨b, e, q⟩ => wpAny_pure ?_) fun _ _ z => z)
  subst e
  exact wpAny_truthy_bool (wpAny_pure q)
end
section
variable {X : Cx} {cf : Cf} {σ : St}
/-- a def of two arguments that is called by an operator -/
def Dun2 (ad : Ad) (X : Cx) (cf : Cf) (m : Str) : Prop := ∀ (K : CK) (k : Str), CkOk ad.nm X.K K → K.ms.lookup m = some (.df k) → ∃ d, FnG ad X cf true k d ∧ calC d 2 0 [] [] [] none = true
theorem bind_vals {d : SgD} {dflV : List V} {kwdV : List (Str × V)} {vs : List V} (hd : DflR d dflV kwdV) (hc : calC d vs.length 0 [] [] [] none = true) : bindG d.g dflV kwdV vs [] = some vs ∧ d.g.va = none ∧ (vs.drop d.g.pos.length).length ≤ sizeLine := by
  have hk : ∃ wv, bindG d.g dflV kwdV vs [] = some (vs ++ wv) ∧ d.g.va = none ∧ wv = [] := by
    unfold calC at hc
    simp only [Bool.and_eq_true, decide_eq_true_eq] at hc
    obtain ⟨⟨⟨hb, h2⟩, h3⟩, h4⟩ := hc
    split at hb
    rotate_left
    · cases hb
    rename_i l hbind
    have el2 := srcsB_eq hb
    subst el2
    have r1 : AllR (SrcR vs [] [] 0) (d.dfl.map Src.d) dflV := allR_map (R := SrcR vs [] [] 0) (f := Src.d) hd.1
    have r2 : AllK (SrcR vs [] [] 0) (d.kwd.map fun z => (z.1, Src.d z.2)) kwdV := allK_map (R := SrcR vs [] [] 0) (f := Src.d) hd.2
    have r3 : AllR (SrcR vs [] [] 0) (preS vs.length ++ (List.range (leadN [] 0)).map Src.a) vs := by
      rw [show (List.range (leadN [] 0)).map Src.a = [] from rfl, List.append_nil]
      refine allR_of (by simp [preS]) fun i x y f1 f2 => ?_
      have hi := (List.getElem?_eq_some_iff.mp f2).1
      have : (preS vs.length)[i]? = some (.a (1000 + i)) := by simp [preS, hi]
      rw [this] at f1
      cases f1
      exact .inl ⟨by omega, by rw [show 1000 + i - 1000 = i from by omega]; exact f2⟩
    obtain ⟨y, f1, f2⟩ := bindG_rel r1 r2 r3 (.nil : AllK (SrcR vs [] [] 0) [] []) hbind
    obtain ⟨b1, wv, ey, q1, q2⟩ := allR_split f2
    have eb := preS_vals q1 (by omega) (by simp)
    rw [eb] at ey
    subst ey
    cases q2
    refine ⟨[], f1, ?_, rfl⟩
    cases hva : d.g.va with
    | none => rfl
    | some x => rw [hva] at h4; cases h4
  obtain ⟨wv, f1, hva, ew⟩ := hk
  subst ew
  have hz : (vs.drop d.g.pos.length).length ≤ sizeLine := by
    unfold bindG at f1
    split at f1
    · rename_i hcond
      simp only [Bool.and_eq_true, Bool.or_eq_true, decide_eq_true_eq, hva, Option.isSome, Bool.false_eq_true, or_false] at hcond
      rw [List.length_drop]
      omega
    · cases f1
  rw [List.append_nil] at f1
  exact ⟨f1, hva, hz⟩
/-- the promise of a def that is called with values -/
theorem run_valsX {W : WX} {key : Str} {d : SgD} {pins : List (Addr × Obj)} {s : Shared} {Q : VK} {us : List Value} {vs : List V} (F : FnG ad X cf true key d) (hc : calC d vs.length 0 [] [] [] none = true) (tk : Takes X W) (I : Inv X pins σ H s) (r : Vals vs us)
    (h : SpOf ad.base X.K (cf.call key) vs H Q fun cls dd H' => W cls dd σ H') : wpAny (model X.prog X.w) X.A (call (.ref (ad.nm.fn key)) us) (EP X pins σ Q) X.xe s := by
  obtain ⟨k, fd, dflV, kwdV, F, S, hd, hr⟩ := F.ex
  obtain ⟨f1, hva, hz⟩ := bind_vals hd hc
  refine wpAny_call (after tk I (F X.A X.stack s H ⟨us, []⟩ Q _ _ ((hr rfl).mono (Nat.le_succ _)) I.env0 (bnd_sig (kw := []) StX.cxUp S I.env0 r .nil f1 hz) fun vs' H2 hb => ?_))
  unfold BndG at hb
  rw [hva] at hb
  obtain ⟨e1, e2⟩ := hb
  subst e1 e2
  exact h
/-- the promise of a def that is called with values -/
theorem run_vals {k : Nat} {key : Str} {fd : FuncData} {d : SgD} {dflV : List V} {kwdV : List (Str × V)} {pins : List (Addr × Obj)} {s : Shared} {Q : VK} {us : List Value} {vs : List V} (F : FnU X.prog X.w X.K X.mg X.base (L2.CX X.prog X.w) k (ad.nm.fn key) fd d.g.ps (SpOf ad.base X.K (cf.call key))) (S : SigOk X.K fd d.g dflV kwdV)
    (hd : DflR d dflV kwdV) (hc : calC d vs.length 0 [] [] [] none = true) (hr : Room k X.A) (I : Inv X pins σ H s) (r : Vals vs us) (h : SpOf ad.base X.K (cf.call key) vs H Q fun _ _ _ => False) : wpAny (model X.prog X.w) X.A (call (.ref (ad.nm.fn key)) us) (EP X pins σ Q) X.xe s := by
  obtain ⟨f1, hva, hz⟩ := bind_vals hd hc
  refine wpAny_call (codeAny_mono (F X.A X.stack s H ⟨us, []⟩ Q (fun _ _ _ => False) _ hr I.env0 (bnd_sig (kw := []) StX.cxUp S I.env0 r .nil f1 hz) fun vs' H2 hb => ?_) fun r s' hq => ?_)
  · unfold BndG at hb
    rw [hva] at hb
    obtain ⟨e1, e2⟩ := hb
    subst e1 e2
    exact h
  · cases r with
    | error e =>
      obtain ⟨_, _, _, _, _, _, _, _, _, _, _, _, z⟩ := hq
      exact z.elim
    | ok fl =>
      cases fl with
      | ret u => exact I.after hq
      | next => exact False.elim hq
      | brk => exact False.elim hq
      | cont => exact False.elim hq
/-- x == y, x of a class with an own __eq__ -/
def rOeq (ad : Ad) (X : Cx) (cf : Cf) : R2 := fun x y H Q => ∃ (p q : PV) (G : Hp) (k : Str) (c : List Cell), Rep ad X.K G p x [] ∧ Rep ad X.K G q y [] ∧ Hold G c H ∧ eqOk p q = true ∧ methOf p "__eq__" = some (.key k [.vl p]) ∧
  SpOf ad.base X.K (cf.call k) [x, y] H (fun v H' => ∃ b, v = .bl b ∧ Q (.bl b) H') fun _ _ _ => False
theorem op_oeq (hu : X.A.units < cLine) (hD : Dun2 ad X cf "__eq__") : OpR X (compareOp .Eq) (rOeq ad X cf) := by
  intro pins s σ H x y v u Q I rx ry ⟨p, q, G, key, c, rp, rq, hh, he, hm, hs⟩
  rcases methOf_some hm with ⟨o, kk, fs, k', rfl, hn, hlk, e3⟩ | ⟨kk, k', rfl, hlk, e3⟩ | ⟨kk, k', rfl, hlk, e3⟩
  · cases e3
    obtain ⟨a, vs, d0, rfl, O, _, _⟩ := (rp.vw (c := c)).obj hh
    cases (show v = Value.ref a from rx)
    obtain ⟨d, F, hc⟩ := hD kk key O.ck hlk
    obtain ⟨kd, fd, dflV, kwdV, F, S, hd, hr⟩ := F.ex
    have ms : Meth X.K (ad.nm.fn kk.cls) "__eq__" (ad.nm.fn key) ∧ _ := O.ck.ms _ _ hlk
    obtain ⟨ox, od, J, _, _⟩ := O.inst I
    obtain ⟨m, hF⟩ := I.fr
    have ty : ∃ tb, PySem.W.Looks (model X.prog X.w) s.heap (typeOf u) tb ∧ PySem.W.notFirst X.K (ad.nm.fn kk.cls) tb = true := by
      unfold eqOk at he
      split at he
      · rename_i o1 k1 f1 o2 k2 f2 e1
        cases e1
        obtain ⟨b, ws, d1, rfl, O2, _, _⟩ := (rq.vw (c := c)).obj hh
        cases (show u = Value.ref b from ry)
        obtain ⟨ox2, od2, J2, _, _⟩ := O2.inst I
        refine ⟨_, J2.type, ?_⟩
        unfold PySem.W.notFirst
        rw [Bool.or_eq_true] at he
        rcases he with he | he
        · rw [of_decide_eq_true he, Bool.or_eq_true]
          exact .inl (by simp)
        · split at he
          · rename_i e2
            have := (O2.ck.up _ _ e2).2
            rw [this, Bool.or_eq_true]
            exact .inr rfl
          · cases he
      · obtain ⟨t, et⟩ := Option.isSome_iff_exists.mp he
        obtain ⟨ty, ht⟩ := (rq.vw (c := c)).ty_ hh et
        obtain ⟨P, Z, pp, hx⟩ := kit_of I ry ty
        refine ⟨_, Z.ty _ _ I.kIn pp, ?_⟩
        unfold PySem.W.notFirst
        rw [(O.ck.nk t (by simpa using ht)).2, Bool.or_eq_true]
        exact .inr rfl
      · cases he
    obtain ⟨tb, l1, l2⟩ := ty
    refine PySem.W.cmp_K (op := .Eq) hu hF I.ok.mod.kin J l1 l2 ms.1.at_ ms.1.fn ?_
    refine thn (run_vals (vs := [.ref a, y]) F S hd hc ((hr rfl).mono (Nat.le_succ _)) I (.cons rfl (.cons ry .nil)) hs) fun w s' ⟨z, H', I', rz, b, ez, qz⟩ => ?_
    subst ez
    cases (show w = Value.bool b from rz)
    exact ⟨.bl b, H', I', rfl, qz⟩
  · cases rp; simp [eqOk] at he
  · cases rp; simp [eqOk] at he
/-- x in y, y of a class with an own __contains__ -/
def rHas (ad : Ad) (X : Cx) (cf : Cf) : R2 := fun x y H Q => ∃ (q : PV) (G : Hp) (k : Str) (c : List Cell), Rep ad X.K G q y [] ∧ Hold G c H ∧ methOf q "__contains__" = some (.key k [.vl q]) ∧ (∃ o kk fs, q = .obj o kk fs) ∧
  SpOf ad.base X.K (cf.call k) [y, x] H (fun v H' => ∃ b, v = .bl b ∧ Q (.bl b) H') fun _ _ _ => False
theorem op_has (hD : Dun2 ad X cf "__contains__") : OpR X (compareOp .In) (rHas ad X cf) := by
  intro pins s σ H x y v u Q I rx ry ⟨q, G, key, c, rq, hh, hm, ⟨o, kk, fs, eq⟩, hs⟩
  subst eq
  rcases methOf_some hm with ⟨o, kk, fs, k', e4, hn, hlk, e3⟩ | ⟨kk, k', e4, hlk, e3⟩ | ⟨kk, k', e4, hlk, e3⟩
  · cases e4
    cases e3
    obtain ⟨a, vs, d0, rfl, O, _, _⟩ := (rq.vw (c := c)).obj hh
    cases (show u = Value.ref a from ry)
    obtain ⟨d, F, hc⟩ := hD kk key O.ck hlk
    obtain ⟨kd, fd, dflV, kwdV, F, S, hd, hr⟩ := F.ex
    have ms : Meth X.K (ad.nm.fn kk.cls) "__contains__" (ad.nm.fn key) ∧ _ := O.ck.ms _ _ hlk
    obtain ⟨ox, od, J, _, _⟩ := O.inst I
    refine in_own I.kIn J ms.1.at_ ms.1.fn ?_
    refine thn (run_vals (vs := [.ref a, x]) F S hd hc ((hr rfl).mono (Nat.le_succ _)) I (.cons rfl (.cons rx .nil)) hs) fun w s' ⟨z, H', I', rz, b, ez, qz⟩ => ?_
    subst ez
    cases (show w = Value.bool b from rz)
    exact ⟨b, rfl, .bl b, H', I', rfl, qz⟩
  · cases e4
  · cases e4
end
end Y
end
section
set_option Elab.async false
set_option linter.all false
set_option maxRecDepth 100000
set_option maxHeartbeats 2000000
set_option autoImplicit false
/-! Y5j: == and in by own defs, as expressions and tests. -/
namespace Y
open PySem PySem.Spec L2
variable {ad : Ad} {K : PySem.W.Frag} {G G' G1 G2 H H' H1 H2 : Hp}
section
variable {X : Cx} {W : WX} {cf : Cf} {pos : Pos} {σ : St}
/-- a bool, and nothing raised -/
theorem aft_asB1 {c : List Cell} {Q : VK} {r : Res PV} (h : Aft ad X.K W σ (RelP ad X.K) G c H Q (asB1 r)) : Aft ad X.K (fun _ _ _ _ => False) σ (RelP ad X.K) G c H (fun v H' => ∃ b, v = .bl b ∧ Q (.bl b) H') r := by
  cases r with
  | bad => exact h
  | ex x ρ => exact h.elim
  | ok p ρ =>
    cases p <;> first
      | exact h.elim
      | skip
    rename_i b
    intro v H' G' c' t s sl hh r
    cases r
    exact ⟨b, rfl, h (.bl b) H' G' c' [] s sl hh (.bl b)⟩
/-- two values one after the other -/
theorem rd_two {a b : IE} {m : PV → PV → Fr → Res PV} {H : Hp} {Q : VK} {R : V → V → Hp → Prop} (hq : rd ad X W (RelP ad X.K) (fun ρ => (evE cf a ρ).bind fun p ρ1 => (evE cf b ρ1).bind fun q ρ2 => m p.frz q.frz ρ2) σ H Q)
    (h : ∀ (p q : PV) (v w : V) (ρ2 : Fr) (G2 : Hp) (c2 : List Cell) (H2 : Hp), Rep ad X.K G2 p v [] → Rep ad X.K G2 q w [] → Slots ad X.K G2 ρ2 σ c2 → Hold G2 c2 H2 → Aft ad X.K W σ (RelP ad X.K) G2 c2 H2 Q (m p q ρ2) → R v w H2) :
    rd ad X W (RelP ad X.K) (evE cf a) σ H fun v H1 => rd ad X W (RelP ad X.K) (evE cf b) σ H1 fun w H2 => R v w H2 := by
  obtain ⟨ρ, G, c, sl, hh, hq⟩ := hq
  refine ⟨ρ, G, c, sl, hh, hq.seq fun p ρ1 v H1 G1 c1 t s sl1 h1 r1 k1 => ?_⟩
  have r1' := Rep.absorb h1 r1
  have k1' := k1.go (s.absorb h1) h1.absorb
  refine ⟨ρ1, addc G1 t, c1, sl1.mono (addc_sub h1.right), h1.absorb, k1'.seq fun q ρ2 w H2 G2 c2 t2 s2 sl2 h2 r2 k2 => ?_⟩
  have r2' := Rep.absorb h2 r2
  exact h p.frz q.frz v w ρ2 (addc G2 t2) c2 H2 (r1'.mono (s2.absorb h2).fz) r2' (sl2.mono (addc_sub h2.right)) h2.absorb (k2.go (s2.absorb h2) h2.absorb)
theorem fin_vals {key : Str} {ρ : Fr} {c : List Cell} {p q : PV} {v w : V} {Q : VK} {W' : WX} (h : Aft ad X.K W' σ (RelP ad X.K) G c H Q (callR cf key [(p, none), (q, none)] ρ)) (sl : Slots ad X.K G ρ σ c) (hh : Hold G c H) (rp : Rep ad X.K G p v []) (rq : Rep ad X.K G q w []) :
    SpOf ad.base X.K (cf.call key) [v, w] H Q fun cls d H' => W' cls d σ H' :=
  fin_call (t := []) h (toL Step.refl) sl (toH hh) (RepL.cons0 rp (RepL.cons0 rq .nil)) (.cons (fun i z => nomatch z) (.cons (fun i z => nomatch z) .nil))
theorem rd_oeq {a b : IE} {H : Hp} {Q : VK} (hq : rd ad X W (RelP ad X.K) (evE cf (.oeq false a b)) σ H Q) : rd ad X W (RelP ad X.K) (evE cf a) σ H fun v H1 => rd ad X W (RelP ad X.K) (evE cf b) σ H1 fun w H2 => rOeq ad X cf v w H2 Q := by
  refine rd_two (Q := Q) (m := fun p q ρ2 => match eqOk p q, methOf p "__eq__" with
      | true, some (.key k [.vl p]) => asB1 (callR cf k [(p, none), (q, none)] ρ2)
      | _, _ => .bad) ?_ fun p q v w ρ2 G2 c2 H2 rp rq sl hh k => ?_
  · obtain ⟨ρ, G, c, sl, hh, hq⟩ := hq
    simp only [evE] at hq
    exact ⟨ρ, G, c, sl, hh, hq⟩
  · cases e1 : eqOk p q with
    | false => rw [e1] at k; exact k.elim
    | true =>
      cases e2 : methOf p "__eq__" with
      | none => rw [e1, e2] at k; exact k.elim
      | some h =>
        rw [e1, e2] at k
        rcases methOf_some e2 with ⟨o, kk, fs, k', ep, hn, hlk, e3⟩ | ⟨kk, k', ep, hlk, e3⟩ | ⟨kk, k', ep, hlk, e3⟩
        · subst ep e3
          exact ⟨_, q, G2, k', c2, rp, rq, hh, e1, e2, fin_vals (aft_asB1 k) sl hh rp rq⟩
        · subst ep e3
          simp [eqOk] at e1
        · subst ep e3
          exact k.elim
theorem rd_has {a b : IE} {H : Hp} {Q : VK} (hq : rd ad X W (RelP ad X.K) (evE cf (.has a b)) σ H Q) : rd ad X W (RelP ad X.K) (evE cf a) σ H fun v H1 => rd ad X W (RelP ad X.K) (evE cf b) σ H1 fun w H2 => rHas ad X cf v w H2 Q := by
  refine rd_two (Q := Q) (m := fun p q ρ2 => match isObj q, methOf q "__contains__" with
      | true, some (.key k [.vl q]) => asB1 (callR cf k [(q, none), (p, none)] ρ2)
      | _, _ => .bad) ?_ fun p q v w ρ2 G2 c2 H2 rp rq sl hh k => ?_
  · obtain ⟨ρ, G, c, sl, hh, hq⟩ := hq
    simp only [evE] at hq
    exact ⟨ρ, G, c, sl, hh, hq⟩
  · cases e1 : isObj q with
    | false => rw [e1] at k; exact k.elim
    | true =>
      cases e2 : methOf q "__contains__" with
      | none => rw [e1, e2] at k; exact k.elim
      | some h =>
        rw [e1, e2] at k
        rcases methOf_some e2 with ⟨o, kk, fs, k', ep, hn, hlk, e3⟩ | ⟨kk, k', ep, hlk, e3⟩ | ⟨kk, k', ep, hlk, e3⟩
        · subst ep e3
          exact ⟨_, G2, k', c2, rq, hh, e2, ⟨_, _, _, rfl⟩, fin_vals (aft_asB1 k) sl hh rq rp⟩
        · subst ep e3
          cases e1
        · subst ep e3
          exact k.elim
variable {a b : Expr} {ia ib : IE}
theorem se_oeq (hu : X.A.units < cLine) (hD : Dun2 ad X cf "__eq__") (ha : SE ad X W a (evE cf ia)) (hb : SE ad X W b (evE cf ib)) : SE ad X W (.Compare a [.Eq] [b] pos) (evE cf (.oeq false ia ib)) :=
  (pe_cmpR (op_oeq hu hD) ha hb (nomark _)).imp fun _ _ _ q => rd_oeq q
theorem st_oeq (hu : X.A.units < cLine) (hD : Dun2 ad X cf "__eq__") (ha : SE ad X W a (evE cf ia)) (hb : SE ad X W b (evE cf ib)) : ST ad X W (.Compare a [.Eq] [b] pos) (evT cf (.oeq false ia ib) (evE cf (.oeq false ia ib))) :=
  (pt_cmpR (op_oeq hu hD) ha hb (nomark _)).imp fun _ _ _ q => rd_oeq (rd_asB (by simpa only [evT] using q))
theorem se_has (hD : Dun2 ad X cf "__contains__") (hm : behindInMarks .In b = false) (ha : SE ad X W a (evE cf ia)) (hb : SE ad X W b (evE cf ib)) : SE ad X W (.Compare a [.In] [b] pos) (evE cf (.has ia ib)) :=
  (pe_cmpR (op_has hD) ha hb hm).imp fun _ _ _ q => rd_has q
theorem st_has (hD : Dun2 ad X cf "__contains__") (hm : behindInMarks .In b = false) (ha : SE ad X W a (evE cf ia)) (hb : SE ad X W b (evE cf ib)) : ST ad X W (.Compare a [.In] [b] pos) (evT cf (.has ia ib) (evE cf (.has ia ib))) :=
  (pt_cmpR (op_has hD) ha hb hm).imp fun _ _ _ q => rd_has (rd_asB (by simpa only [evT] using q))
end
end Y
end
section
set_option Elab.async false
set_option linter.all false
set_option maxRecDepth 100000
set_option maxHeartbeats 2000000
set_option autoImplicit false
/-! Y5k: plain calls; the index of an item. -/
namespace Y
open PySem PySem.Spec PyProof.Rows L2 PySem.SeqAt
variable {ad : Ad} {K : PySem.W.Frag} {G G' G1 G2 H H' H1 H2 : Hp}
section
variable {X : Cx} {W : WX} {cf : Cf} {pos : Pos} {σ : L2.St}
theorem se_callG {key x : Str} {d : SgD} {p : Pos} {e : Expr} {es : List Expr} {ls : List Bool} {as : List IE} (F : FnG ad X cf true key d) (hc : calC d as.length 0 [] [] [] none = true) (hg : Gl X x) (hm : X.mg x = some (.ref (ad.nm.fn key)))
    (hk : PySem.W.keepIn X.K (.ref (ad.nm.fn key)) = true) (tk : Takes X W) (ha : SAs ad X W (e :: es) (evA cf ls as)) (hdb : (x == ("__debug__" : Str)) = false) (he : starEach (e :: es) X.env = (false, eval e X.env) :: starEach es X.env)
    (hpl : (backTo pos (starEach es X.env)).any (·.1) = false) (hlen : ∀ ρ ρ' os, evA cf ls as ρ = .ok os ρ' → os.length = as.length) : SE ad X W (.Call (.Name x p) (e :: es) [] pos) (evE cf (.call key ls as)) := by
  refine ⟨fun pins s σ H Q I hq => ?_⟩
  refine wpAny_Call_Name_kw (ld_glob I hg hm ?_ hdb)
  have hq2 : rd ad X W (RelOs ad X.K) (evA cf ls as) σ H fun vs H1 => vs.length = as.length ∧ SpOf ad.base X.K (cf.call key) vs H1 Q fun cls d H' => W cls d σ H' := by
    obtain ⟨ρ, G, c, sl, hh, h⟩ := rd_call hq
    refine ⟨ρ, G, c, sl, hh, ?_⟩
    cases e1 : evA cf ls as ρ with
    | bad => rw [e1] at h; exact h
    | ex x ρ1 => rw [e1] at h; exact h
    | ok os ρ1 =>
      rw [e1] at h
      exact fun v H' G' c' t s2 sl2 hh2 hr => ⟨by rw [ovals_len hr.2]; exact hlen _ _ _ e1, h v H' G' c' t s2 sl2 hh2 hr⟩
  refine PySem.W.callWith_K (h₀ := X.base) I.ok.mod.kin hk (thn (ha.run pos pins s σ H _ I hq2) fun us s1 ⟨vs, H1, I1, r, hl, q⟩ => ⟨I1.kIn, ?_⟩) he hpl
  exact run_valsX F (by rw [hl]; exact hc) tk I1 r q
theorem se_callG0 {key x : Str} {d : SgD} {p : Pos} {ls : List Bool} (F : FnG ad X cf true key d) (hc : calC d 0 0 [] [] [] none = true) (hg : Gl X x) (hm : X.mg x = some (.ref (ad.nm.fn key)))
    (hk : PySem.W.keepIn X.K (.ref (ad.nm.fn key)) = true) (tk : Takes X W) (hdb : (x == ("__debug__" : Str)) = false) : SE ad X W (.Call (.Name x p) [] [] pos) (evE cf (.call key ls [])) := by
  refine ⟨fun pins s σ H Q I hq => ?_⟩
  refine wpAny_Call_Name_kw (ld_glob I hg hm ?_ hdb)
  exact PySem.W.callWith_K0 I.kIn hk (run_valsX (us := []) (vs := []) F hc tk I .nil (rd_as_nil (rd_call hq)))
theorem evA_len : ∀ {ls : List Bool} {es : List IE} {ρ ρ' : Fr} {os : List OV}, evA cf ls es ρ = .ok os ρ' → os.length = es.length
  | _, [], ρ, ρ', os, h => by
    simp only [evA] at h
    cases h
    rfl
  | ls, e :: es, ρ, ρ', os, h => by
    simp only [evA] at h
    cases e1 : opA (ls.headD false) e (evE cf e) ρ with
    | bad => rw [e1] at h; cases h
    | ex x ρ => rw [e1] at h; cases h
    | ok o ρ1 =>
      rw [e1] at h
      simp only [Res.bind] at h
      cases e2 : evA cf ls.tail es ρ1 with
      | bad => rw [e2] at h; cases h
      | ex x ρ => rw [e2] at h; cases h
      | ok os' ρ2 =>
        rw [e2] at h
        cases h
        rw [List.length_cons, List.length_cons, evA_len e2]
/-! ### a.index(b) -/
theorem any_idx {ds : List PyData} {d : PyData} {h : Heap} : ∀ {ds : List PyData} {vs : List Value} {as : List Addr}, nodL ds = true → ReadsAll h vs ds as → ∀ (m : Nat) (z : PyData) (v : Value), ds[m]? = some z → vs[m]? = some v → hitV h d v = PyData.eqv z d
  | [], _, _, _, .nil, m, z, v, e, _ => by simp at e
  | y :: ds, _, _, hn, .cons (v := w) (vs := vs) r t, m, z, v, e1, e2 => by
    simp only [nodL, Bool.and_eq_true] at hn
    cases m with
    | zero =>
      cases e1
      cases e2
      exact hitV_eq hn.1 r
    | succ m => exact any_idx (ds := y :: ds) hn.2 t m z v (by simpa using e1) (by simpa using e2)
def rIdx (K : PySem.W.Frag) : V → List V → Hp → VK → Prop := fun x xs H Q => ∃ (a : Addr) (y : V) (d : PyData) (ds : List PyData) (j : Nat), x = V.ref a ∧ xs = [y] ∧ Dp K H (V.ref a) (.list ds) ∧ Dp K H y d ∧ nod d = true ∧ nodL ds = true ∧ PyData.depthAll ds ≤ 60 ∧ idxD d ds = some j ∧ Q (.int (j : Nat)) H
theorem mt_idx (hu : X.A.units + 65 < cLine) : MtR X "list.index" (rIdx X.K) := by
  intro pins s σ H x xs v us Q I rx rxs h
  obtain ⟨a, y, d, ds, j, rfl, rfl, hl, hy, nd, nl, hz, hj, q⟩ := h
  cases rx
  cases rxs with
  | cons ry rt =>
    rename_i uy ut
    cases rt
    obtain ⟨bs, r1⟩ := Dp.reads I d y uy hy ry
    obtain ⟨cs, r2⟩ := Dp.reads I (.list ds) (.ref a) (.ref a) hl rfl
    obtain ⟨o, vs, n, as', h1, h2, h3, h4⟩ : ∃ o vs n as', s.heap.get? a = some o ∧ o.cls = .type "list" ∧ o.data = .seq vs n ∧ ReadsAll s.heap vs.toList ds as' := by
      cases r2 with
      | list h1 h2 h3 h4 => exact ⟨_, _, _, _, h1, h2, h3, h4⟩
    obtain ⟨oc, od, dat, osl⟩ := o
    simp only at h2 h3
    subst h2 h3
    obtain ⟨j1, ⟨z, j2, j3⟩, j4⟩ := idxD_spec hj
    have hlen : vs.toList.length = ds.length := SeqAt.ReadsAll.length ds vs.toList as' h4
    have hvs : vs.size = ds.length := by simpa using hlen
    have hsz : ds.length ≤ sizeLine := by
      cases hl with
      | lst hs ha =>
        obtain ⟨its, rv, ⟨o2, n2, ho2, hc2, hdn2, hdt2⟩, hl2⟩ := I.list hs
        have e := h1.symm.trans ho2
        cases e
        simp only at hdt2
        cases hdt2
        rw [← hvs]
        have hrl := rv.length
        simp only [List.size_toArray]
        omega
    have at_ : ∀ (m : Nat) (hm : m < vs.size) (z : PyData), ds[m]? = some z → hitV s.heap d vs[m] = PyData.eqv z d := fun m hm z hz' => any_idx (ds := ds) nl h4 m z vs[m] hz' (by simp [hm])
    have hss := sizeLine_eq
    refine call_meets PySem.F.slot_list_index ⟨_, h1, rfl⟩ PySem.F.entry_list_index (PySem.F.args_list_index_2 _ _)
      (SeqAt.list_indexAt a vs n od osl uy (hitV s.heap d) j (by omega) (by omega) ?_ ?_) ⟨h1, ?_, ?_⟩
    · rw [at_ j (by omega) z j2]; exact j3
    · intro m hm hmj
      obtain ⟨z', hz'⟩ : ∃ z', ds[m]? = some z' := ⟨_, List.getElem?_eq_getElem (by omega)⟩
      rw [at_ m hm z' hz']
      exact j4 m hmj z' hz'
    · intro y hy
      exact (hit_items nd r1 (m := 60) (by show X.A.units + 1 + 60 < cLine; omega) nl h4 hz).1 y (by simpa using hy)
    · exact ⟨.int (j : Nat), H, I.tok _, ⟨_, rfl⟩, q⟩
end
end Y
end
section
set_option Elab.async false
set_option linter.all false
set_option maxRecDepth 100000
set_option maxHeartbeats 2000000
set_option autoImplicit false
/-! Y6: targets, what is walked, comprehensions. -/
namespace Y
open PySem L2
variable {ad : Ad} {K : PySem.W.Frag} {G G' G1 G2 H H' H1 H2 : Hp}
/-! ### slots, further -/
theorem Slots0.congr : ∀ {ρ : Fr} {σ σ' : St} {c : List Cell}, Slots0 ad K G ρ σ c → σ'.length = σ.length → (∀ i p, Fr.at ρ i = Option.some p → σ'[i]? = σ[i]?) → Slots0 ad K G ρ σ' c
  | _, _, σ', _, .nil, hl, _ => by
    have e : σ' = [] := List.eq_nil_of_length_eq_zero hl
    subst e
    exact .nil
  | _, _, σ', _, .none (v := v) t, hl, h => by
    cases σ' with
    | nil => simp at hl
    | cons w τ => exact .none (Slots0.congr t (by simpa using hl) fun i p e => by simpa using h (i + 1) p e)
  | _, _, σ', _, .some (p := p) (v := v) r t, hl, h => by
    cases σ' with
    | nil => simp at hl
    | cons w τ =>
      have e := h 0 p rfl
      simp at e
      subst e
      exact .some r (Slots0.congr t (by simpa using hl) fun i p e => by simpa using h (i + 1) p e)
theorem Slots.congr {ρ : Fr} {σ σ' : St} {c : List Cell} (s : Slots ad K G ρ σ c) (hl : σ'.length = σ.length) (h : ∀ i p, Fr.at ρ i = Option.some p → σ'[i]? = σ[i]?) (hx : XcOk ad K σ' G) : Slots ad K G ρ σ' c := ⟨s.b.congr hl h, hx⟩
theorem at_set_ne {ρ : Fr} {i j : Nat} {x : Option PV} (h : j ≠ i) : Fr.at (ρ.set i x) j = Fr.at ρ j := by
  unfold Fr.at
  rw [List.getD_eq_getElem?_getD, List.getD_eq_getElem?_getD, List.getElem?_set_ne (Ne.symm h)]
theorem wipeF_length (ρ : Fr) : ∀ own, (wipeF ρ own).length = ρ.length
  | [] => rfl
  | i :: r => by unfold wipeF; rw [List.length_set, wipeF_length ρ r]
theorem wipeF_at {ρ : Fr} {i : Nat} {p : PV} : ∀ {own : List Nat}, Fr.at (wipeF ρ own) i = some p → i ∉ own ∧ Fr.at ρ i = some p
  | [], h => ⟨by simp, h⟩
  | j :: r, h => by
    unfold wipeF at h
    by_cases e : i = j
    · subst e; rw [at_set_none] at h; cases h
    · rw [at_set_ne e] at h
      obtain ⟨h1, h2⟩ := wipeF_at h
      exact ⟨by simp [e, h1], h2⟩
theorem wipe_in {σ : St} {i : Nat} : ∀ {own : List Nat}, i ∈ own → i < σ.length → (wipe σ own)[i]? = some none
  | j :: r, h, hl => by
    unfold wipe
    by_cases e : j = i
    · subst e
      rw [List.getElem?_set_self (by rw [wipe_length]; exact hl)]
    · rw [List.getElem?_set_ne e]
      exact wipe_in ((List.mem_cons.mp h).resolve_left (Ne.symm e)) hl
theorem Slots.wipe {ρ : Fr} {σ : St} {c : List Cell} (hn : ad.cur = Option.none) (s : Slots ad K G ρ σ c) : ∀ own : List Nat, ∃ g c', Slots ad K G (wipeF ρ own) (L2.wipe σ own) c' ∧ c.Perm (g ++ c')
  | [] => ⟨[], c, s, List.Perm.refl _⟩
  | i :: r => by
    obtain ⟨g, c1, s1, p1⟩ := Slots.wipe hn s r
    obtain ⟨d, c2, s2, p2⟩ := s1.drop i
    refine ⟨g ++ d, c2, ?_, ?_⟩
    · refine Slots.congr s2 (show ((L2.wipe σ r).set i Option.none).length = _ from by rw [List.length_set]) (fun j p e => ?_) (.of_none hn)
      have e' : Fr.at ((wipeF ρ r).set i Option.none) j = Option.some p := e
      have hj : j ≠ i := fun z => by subst z; rw [at_set_none] at e'; cases e'
      show ((L2.wipe σ r).set i Option.none)[j]? = _
      rw [List.getElem?_set_ne (Ne.symm hj)]
    · refine p1.trans ?_
      rw [List.append_assoc]
      exact p2.append_left g
theorem Slots.unwipe {ρ : Fr} {σ : St} {c : List Cell} {own : List Nat} (hn : ad.cur = Option.none) (s : Slots ad K G (wipeF ρ own) (L2.wipe σ own) c) : Slots ad K G (wipeF ρ own) σ c :=
  s.congr (by rw [wipe_length]) (fun i p e => by
    obtain ⟨h1, _⟩ := wipeF_at e
    rw [wipe_out h1]) (.of_none hn)
theorem Slots.freeze {ρ : Fr} {σ : St} {c : List Cell} (s : Slots ad K G ρ σ c) (hh : Hold G c H) : ∀ own : List Nat, ∃ G' c', Step G c H G' c' H ∧ Hold G' c' H ∧ Slots ad K G' (frzAt ρ own) σ c'
  | [] => ⟨G, c, Step.refl, hh, s⟩
  | i :: r => by
    obtain ⟨G1, c1, st1, h1, s1⟩ := Slots.freeze s hh r
    unfold frzAt
    cases e : (frzAt ρ r).at i with
    | none =>
      obtain ⟨d, c2, s2, p2⟩ := s1.drop i
      refine ⟨G1, c2, (st1.perm (List.Perm.refl _) p2).less fun z hz => List.mem_append_right _ hz, (h1.perm p2).right, ?_⟩
      exact s2
    | some p =>
      obtain ⟨v, G2, c2, e1, st2, h2, s2, r2⟩ := slot_frz s1 h1 e
      exact ⟨G2, c2, st1.trans st2 h1, h2, s2⟩
theorem frzAt_fz {ρ : Fr} {i : Nat} {p : PV} : ∀ {own : List Nat}, i ∈ own → Fr.at (frzAt ρ own) i = some p → p.fz = true
  | j :: r, h, e => by
    unfold frzAt at e
    by_cases q : i = j
    · subst q
      cases e1 : (frzAt ρ r).at i with
      | none => rw [e1] at e; rw [show Option.map PV.frz none = none from rfl, at_set_none] at e; cases e
      | some x =>
        rw [e1] at e
        rw [at_set_same (at_lt e1)] at e
        cases e
        exact PV.frz_fz x
    · rw [at_set_ne q] at e
      exact frzAt_fz ((List.mem_cons.mp h).resolve_left q) e
theorem Slots.put_back {ρ : Fr} {σ : St} {c : List Cell} (s : Slots ad K G ρ σ c) {ρ0 : Fr} : ∀ (own : List Nat), (∀ i ∈ own, ∀ p, ρ0.at i = Option.some p → ∃ v, σ[i]? = Option.some (Option.some v) ∧ Rep ad K G p v []) → ∃ g c', Slots ad K G (putAt ρ0 ρ own) σ c' ∧ c.Perm (g ++ c')
  | [], _ => ⟨[], c, s, List.Perm.refl _⟩
  | i :: r, h => by
    obtain ⟨g, c1, s1, p1⟩ := Slots.put_back s r fun j hj => h j (List.mem_cons_of_mem _ hj)
    unfold putAt
    cases e : ρ0.at i with
    | none => exact ⟨g, c1, s1, p1⟩
    | some p =>
      obtain ⟨v, e1, rp⟩ := h i List.mem_cons_self p e
      have hi : i < (putAt ρ0 ρ r).length := by
        rw [s1.length]
        exact (List.getElem?_eq_some_iff.mp e1).1
      obtain ⟨d, c2, s2, p2⟩ := s1.retell hi e1 rp
      refine ⟨g ++ d, c2, s2, ?_⟩
      refine p1.trans ?_
      rw [List.append_assoc]
      exact p2.append_left g
/-! ### targets -/
structure Touch (js : List Nat) (σ σ' : St) : Prop where
  len : σ'.length = σ.length
  out : ∀ j, j ∉ js → σ'[j]? = σ[j]?
theorem Touch.refl (js : List Nat) (σ : St) : Touch js σ σ := ⟨rfl, fun _ _ => rfl⟩
theorem Touch.trans {js ks : List Nat} {σ σ1 σ2 : St} (a : Touch js σ σ1) (b : Touch ks σ1 σ2) : Touch (js ++ ks) σ σ2 :=
  ⟨b.len.trans a.len, fun j hj => (b.out j fun z => hj (List.mem_append_right _ z)).trans (a.out j fun z => hj (List.mem_append_left _ z))⟩
theorem Touch.set {σ : St} {i : Nat} {x : Option V} : Touch [i] σ (σ.set i x) := ⟨by simp, fun j hj => by rw [List.getElem?_set_ne]; simpa using fun z => hj (by simp [z])⟩
theorem Touch.wipe {js own : List Nat} {σ σ' : St} (t : Touch js (L2.wipe σ own) σ') (h : ∀ j ∈ js, j ∈ own) : L2.wipe σ' own = L2.wipe σ own := by
  have hl : σ'.length = σ.length := by rw [t.len, wipe_length]
  apply List.ext_getElem?
  intro j
  by_cases hj : j ∈ own
  · by_cases hlt : j < σ.length
    · rw [wipe_in hj hlt, wipe_in hj (by rw [hl]; exact hlt)]
    · rw [List.getElem?_eq_none (by rw [wipe_length]; omega), List.getElem?_eq_none (by rw [wipe_length]; omega)]
  · rw [wipe_out hj, wipe_out hj, t.out j fun z => hj (h j z), wipe_out hj]
def rdG (ad : Ad) (X : Cx) (tg : IT) : TG := fun v σ H Q => ∃ ρ G c p ρ', Slots ad X.K G ρ σ c ∧ Hold G c H ∧ Rep ad X.K G p v [] ∧ asg tg p ρ = some ρ' ∧ ∀ σ' c', Slots ad X.K G ρ' σ' c' → (∃ g, c.Perm (g ++ c')) → Touch tg.slots σ σ' → Q σ' H
def rdGs (ad : Ad) (X : Cx) (ts : List IT) : TGs := fun vs σ H Q => ∃ ρ G c ps ρ', Slots ad X.K G ρ σ c ∧ Hold G c H ∧ RepL ad X.K G ps vs [] ∧ asgL ts ps ρ = some ρ' ∧ ∀ σ' c', Slots ad X.K G ρ' σ' c' → (∃ g, c.Perm (g ++ c')) → Touch (IT.slots.slotsL ts) σ σ' → Q σ' H
section
variable {X : Cx} {W : WX} {cf : Cf} {pos : Pos}
theorem _root_.L2.PG.imp {e : Expr} {t t' : TG} (h : PG X e t) (i : ∀ v σ H Q, t' v σ H Q → t v σ H Q) : PG X e t' := ⟨fun pins s σ H v u Q I r hw => h.run pins s σ H v u Q I r (i v σ H Q hw)⟩
theorem _root_.L2.PGs.imp {e : List Expr} {t t' : TGs} (h : PGs X e t) (i : ∀ v σ H Q, t' v σ H Q → t v σ H Q) : PGs X e t' := ⟨fun pins s σ H v u Q I r hw => h.run pins s σ H v u Q I r (i v σ H Q hw)⟩
theorem sg_nm {x : Str} {i : Nat} (hf : Free ad i) (h : PG X (.Name x pos) (gName i)) : PG X (.Name x pos) (rdG ad X (.nm i)) := h.imp fun v σ H Q hq => by
  obtain ⟨ρ, G, c, p, ρ', sl, hh, r, e, k⟩ := hq
  simp only [asg] at e
  split at e
  · rename_i hi
    cases e
    obtain ⟨g, c', s2, p2⟩ := sl.set hf hi r
    exact k _ c' s2 ⟨g, p2⟩ Touch.set
  · cases e
theorem sgs_nil : PGs X [] (rdGs ad X []) := pgs_nil.imp fun v σ H Q hq => by
  obtain ⟨ρ, G, c, ps, ρ', sl, hh, r, e, k⟩ := hq
  cases ps with
  | nil =>
    obtain ⟨rfl, _⟩ := r.nil'
    cases e
    exact ⟨rfl, k σ c sl ⟨[], List.Perm.refl _⟩ (Touch.refl _ _)⟩
  | cons p ps => cases e
theorem sgs_cons {e : Expr} {es : List Expr} {t : IT} {ts : List IT} (h1 : PG X e (rdG ad X t)) (h2 : PGs X es (rdGs ad X ts)) (hs : (assignEach (e :: es) X.env).map (·.2) = assign e X.env :: (assignEach es X.env).map (·.2)) : PGs X (e :: es) (rdGs ad X (t :: ts)) := (pgs_cons h1 h2 hs).imp fun v σ H Q hq => by
  obtain ⟨ρ, G, c, ps, ρ', sl, hh, r, e, k⟩ := hq
  cases ps with
  | nil => cases e
  | cons p ps =>
    obtain ⟨v0, vr, rfl, r1, r2⟩ := r.inv0'
    simp only [asgL] at e
    obtain ⟨ρ1, e1, e2⟩ := Option.bind_eq_some_iff.mp e
    refine ⟨v0, vr, rfl, ρ, G, c, p, ρ1, sl, hh, r1, e1, fun σ1 c1 s1 ⟨g1, p1⟩ t1 => ?_⟩
    refine ⟨ρ1, G, c1, ps, ρ', s1, (hh.perm p1).right, r2, e2, fun σ2 c2 s2 ⟨g2, p2⟩ t2 => ?_⟩
    refine k σ2 c2 s2 ⟨g1 ++ g2, ?_⟩ (t1.trans t2)
    refine p1.trans ?_
    rw [List.append_assoc]
    exact p2.append_left g1
theorem asgL_len : ∀ {ts : List IT} {ps : List PV} {ρ ρ' : Fr}, asgL ts ps ρ = some ρ' → ps.length = ts.length
  | [], [], _, _, _ => rfl
  | [], _ :: _, _, _, h => by simp [asgL] at h
  | _ :: _, [], _, _, h => by simp [asgL] at h
  | t :: ts, p :: ps, ρ, ρ', h => by
    simp only [asgL] at h
    obtain ⟨ρ1, _, e2⟩ := Option.bind_eq_some_iff.mp h
    simp [asgL_len e2]
theorem sg_tp {es : List Expr} {n : Nat} {ts : List IT} (hc : X.calm = true) (h : PGs X es (rdGs ad X ts)) (hn : (assignEach es X.env).length = ts.length) (hst : (assignEach es X.env).findIdx? (·.1) = none) : PG X (.Tuple es n pos) (rdG ad X (.tp ts)) := (pg_tup hc h hn hst).imp fun v σ H Q hq => by
  obtain ⟨ρ, G, c, p, ρ', sl, hh, r, e, k⟩ := hq
  simp only [asg] at e
  cases p with
  | tup xs =>
    generalize ez : ([] : List Cell) = z at r
    cases r with
    | @tup a _ vs _ g1 r1 =>
      subst ez
      refine ⟨a, vs, rfl, .of (hh.fz _ _ g1), ?_, ρ, G, c, xs, ρ', sl, hh, r1, e, k⟩
      rw [← r1.length]
      exact asgL_len e
  | _ => cases e

/-! ### what is walked -/
def Walks (ad : Ad) (K : PySem.W.Frag) (J : It) (xs : List PV) (G : Hp) : Prop := ∀ (i : Nat) (H G1 : Hp) (c1 : List Cell), Sub G G1 → Hold G1 c1 H →
  (i < xs.length → J.go i H ∧ ∀ x H', J.yld i H x H' → ∃ G2 p, Step G1 c1 H G2 c1 H' ∧ Hold G2 c1 H' ∧ xs[i]? = some p ∧ Rep ad K G2 p x []) ∧ (xs.length ≤ i → J.stop i H)
def RelI (ad : Ad) (K : PySem.W.Frag) : RRel (List PV) It := fun _ G xs J t => t = [] ∧ Walks ad K J xs G
theorem RepL.item {xs : List PV} {vs : List V} (r : RepL ad K G xs vs []) {i : Nat} (hi : i < xs.length) : ∃ p v, xs[i]? = some p ∧ vs[i]? = some v ∧ Rep ad K G p v [] := by
  have e : xs[i]? = some xs[i] := List.getElem?_eq_getElem hi
  obtain ⟨w, d, e1, e2, e3⟩ := r.get e
  have : d = [] := List.eq_nil_iff_forall_not_mem.mpr fun z hz => nomatch e3 z hz
  subst this
  exact ⟨_, w, e, e1, e2⟩
theorem walks_list {a : Addr} {xs : List PV} {vs : List V} (hs : SqL K G a vs) (r : RepL ad K G xs vs []) : Walks ad K (Itl K a) xs G := fun i H G1 c1 sub hh => by
  have h1 : SqL K H a vs := hh.fz.sql (sub.sql hs)
  refine ⟨fun hi => ?_, fun hi => ⟨vs, h1, by rw [← r.length]; exact hi⟩⟩
  obtain ⟨p, v, e1, e2, e3⟩ := r.item hi
  refine ⟨⟨vs, v, h1, e2⟩, fun x H' ⟨eh, hx⟩ => ?_⟩
  subst eh
  have := hx vs h1
  rw [e2] at this
  cases this
  exact ⟨G1, p, Step.refl, hh, e1, e3.mono sub⟩
theorem walks_tup {a : Addr} {xs : List PV} {vs : List V} (hs : G a = some (.tup vs)) (r : RepL ad K G xs vs []) : Walks ad K (Itt K a) xs G := fun i H G1 c1 sub hh => by
  have h1 : SqT K H a vs := .of (hh.fz _ _ (sub _ _ hs))
  refine ⟨fun hi => ?_, fun hi => ⟨vs, h1, by rw [← r.length]; exact hi⟩⟩
  obtain ⟨p, v, e1, e2, e3⟩ := r.item hi
  refine ⟨⟨vs, v, h1, e2⟩, fun x H' ⟨eh, hx⟩ => ?_⟩
  subst eh
  have := hx vs h1
  rw [e2] at this
  cases this
  exact ⟨G1, p, Step.refl, hh, e1, e3.mono sub⟩
theorem walks_str (x : Str) : Walks ad K (Its x) (x.cps.toList.map fun k => PV.str ⟨#[k]⟩) G := fun i H G1 c1 sub hh => by
  refine ⟨fun hi => ?_, fun hi => ?_⟩
  · rw [List.length_map, Array.length_toList] at hi
    refine ⟨hi, fun v H' ⟨eh, k, e1, e2⟩ => ?_⟩
    subst eh
    subst e2
    refine ⟨G1, .str ⟨#[k]⟩, Step.refl, hh, ?_, .str _⟩
    rw [List.getElem?_map, Array.getElem?_toList, e1]
    rfl
  · rw [List.length_map, Array.length_toList] at hi
    exact hi
theorem rngI_get : ∀ (n : Nat) (lo : Int) (i : Nat), i < n → (rngI lo n)[i]? = some (.int (lo + i))
  | 0, lo, i, h => by omega
  | n + 1, lo, 0, h => by simp [rngI]
  | n + 1, lo, i + 1, h => by
    simp only [rngI, List.getElem?_cons_succ]
    rw [rngI_get n (lo + 1) i (by omega)]
    congr 2
    omega
theorem rngI_len : ∀ (n : Nat) (lo : Int), (rngI lo n).length = n
  | 0, _ => rfl
  | n + 1, lo => by simp [rngI, rngI_len n]
theorem walks_rng (lo : Int) (n : Nat) : Walks ad K (Itr lo n) (rngI lo n) G := fun i H G1 c1 sub hh => by
  rw [rngI_len]
  refine ⟨fun hi => ⟨hi, fun v H' ⟨eh, e1⟩ => ?_⟩, fun hi => hi⟩
  subst eh
  subst e1
  exact ⟨G1, _, Step.refl, hh, rngI_get n lo i hi, .int _⟩
theorem enmN_get : ∀ (xs : List PV) (k : Int) (i : Nat) (p : PV), xs[i]? = some p → (enmN k xs)[i]? = some (.tup [.int (k + i), p])
  | [], _, i, _, h => by simp at h
  | x :: xs, k, 0, p, h => by simp at h; subst h; simp [enmN]
  | x :: xs, k, i + 1, p, h => by
    simp only [enmN, List.getElem?_cons_succ]
    rw [enmN_get xs (k + 1) i p (by simpa using h)]
    congr 3
    congr 1
    omega
theorem enmN_len : ∀ (xs : List PV) (k : Int), (enmN k xs).length = xs.length
  | [], _ => rfl
  | x :: xs, k => by simp [enmN, enmN_len xs]
theorem walks_enum {a : Addr} {xs : List PV} {vs : List V} (hs : SqL K G a vs) (r : RepL ad K G xs vs []) : Walks ad K (Ite K a) (enmN 0 xs) G := fun i H G1 c1 sub hh => by
  have h1 : SqL K H a vs := hh.fz.sql (sub.sql hs)
  rw [enmN_len]
  refine ⟨fun hi => ?_, fun hi => ⟨vs, h1, by rw [← r.length]; exact hi⟩⟩
  obtain ⟨p, v, e1, e2, e3⟩ := r.item hi
  refine ⟨⟨vs, v, h1, e2⟩, fun x H' ⟨T, y, ex, hT, eh, hy⟩ => ?_⟩
  subst eh
  subst ex
  have := hy vs h1
  rw [e2] at this
  cases this
  obtain ⟨q1, q2⟩ := hh.newF hT (.tup [.int (i : Nat), v])
  refine ⟨_, _, q2, q1, enmN_get xs 0 i p e1, ?_⟩
  rw [Int.zero_add]
  exact .tup upd_same (.cons0 (.int _) (.cons0 ((e3.mono sub).mono q2.fz) .nil))
theorem zipN_get : ∀ (xs ys : List PV) (i : Nat) (p q : PV), xs[i]? = some p → ys[i]? = some q → (zipN xs ys)[i]? = some (.tup [p, q])
  | [], _, i, _, _, h, _ => by simp at h
  | _ :: _, [], i, _, _, _, h => by simp at h
  | x :: xs, y :: ys, 0, p, q, h, h' => by simp at h h'; subst h h'; simp [zipN]
  | x :: xs, y :: ys, i + 1, p, q, h, h' => by
    simp only [zipN, List.getElem?_cons_succ]
    exact zipN_get xs ys i p q (by simpa using h) (by simpa using h')
theorem zipN_len : ∀ (xs ys : List PV), (zipN xs ys).length = min xs.length ys.length
  | [], _ => by simp [zipN]
  | _ :: _, [] => by simp [zipN]
  | x :: xs, y :: ys => by simp [zipN, zipN_len xs ys]
theorem walks_zip {a b : Addr} {xs ys : List PV} {vs ws : List V} (hs : SqL K G a vs) (r : RepL ad K G xs vs []) (hs2 : SqL K G b ws) (r2 : RepL ad K G ys ws []) : Walks ad K (Itz K a b) (zipN xs ys) G := fun i H G1 c1 sub hh => by
  have h1 : SqL K H a vs := hh.fz.sql (sub.sql hs)
  have h2 : SqL K H b ws := hh.fz.sql (sub.sql hs2)
  rw [zipN_len]
  refine ⟨fun hi => ?_, fun hi => ⟨vs, ws, h1, h2, ?_⟩⟩
  · obtain ⟨p, v, e1, e2, e3⟩ := r.item (i := i) (by omega)
    obtain ⟨q, w, f1, f2, f3⟩ := r2.item (i := i) (by omega)
    refine ⟨⟨vs, ws, v, w, h1, h2, e2, f2⟩, fun x H' ⟨T, y, z, ex, hT, eh, hy, hz⟩ => ?_⟩
    subst eh
    subst ex
    have := hy vs h1
    rw [e2] at this
    cases this
    have := hz ws h2
    rw [f2] at this
    cases this
    obtain ⟨q1, q2⟩ := hh.newF hT (.tup [v, w])
    exact ⟨_, _, q2, q1, zipN_get xs ys i p q e1 f1, .tup upd_same (.cons0 ((e3.mono sub).mono q2.fz) (.cons0 ((f3.mono sub).mono q2.fz) .nil))⟩
  · rw [← r.length, ← r2.length]
    omega
theorem _root_.L2.PI.or {tg it : Expr} {w w' : TI} (h : PI X tg it w) (h' : PI X tg it w') : PI X tg it (fun σ H R => w σ H R ∨ w' σ H R) := ⟨fun pins s σ H R I hq => hq.elim (fun q => h.run pins s σ H R I q) fun q => h'.run pins s σ H R I q⟩
theorem _root_.L2.PI.imp {tg it : Expr} {w w' : TI} (h : PI X tg it w) (i : ∀ σ H R, w' σ H R → w σ H R) : PI X tg it w' := ⟨fun pins s σ H R I hq => h.run pins s σ H R I (i σ H R hq)⟩
abbrev SI (ad : Ad) (X : Cx) (W : WX) (tg it : Expr) (m : Fr → Res (List PV)) : Prop := PI X tg it (rd ad X W (RelI ad X.K) m)
/-- a list, a tuple, a text -/
theorem si_it {tg e : Expr} {ie : IE} (h : SE ad X W e (evE cf ie)) : SI ad X W tg e (evSrc cf (.it ie)) := (((pi_list h).or (pi_tup h)).or (pi_str h)).imp fun σ H R hq => by
  obtain ⟨ρ, G, c, sl, hh, ha⟩ := hq
  simp only [evSrc] at ha
  cases e : evE cf ie ρ with
  | bad => rw [e] at ha; exact ha.elim
  | ex x ρ1 =>
    rw [e] at ha
    exact .inl (.inl ⟨ρ, G, c, sl, hh, by rw [e]; exact ha⟩)
  | ok p ρ1 =>
    rw [e] at ha
    simp only [Res.bind] at ha
    cases e1 : srcOf p.frz with
    | none => rw [e1] at ha; exact ha.elim
    | some xs =>
      rw [e1] at ha
      have go : ∀ v H1 G1 c1 t (J : It), Step G c H G1 (c1 ++ t) H1 → Slots ad X.K G1 ρ1 σ c1 → Hold G1 (c1 ++ t) H1 → Rep ad X.K G1 p v t → (Rep ad X.K (addc G1 t) p.frz v [] → Walks ad X.K J xs (addc G1 t)) → R J H1 := fun v H1 G1 c1 t J s sl1 h1 hr hw =>
        ha J H1 (addc G1 t) c1 [] (toL (s.absorb h1)) (sl1.mono (addc_sub h1.right)) (toH h1.absorb) ⟨rfl, hw (Rep.absorb h1 hr)⟩
      have hfz := PV.frz_fz p
      cases ep : p.frz with
      | str x =>
        rw [ep] at e1
        cases e1
        refine .inr ⟨ρ, G, c, sl, hh, ?_⟩
        rw [e]
        intro v H1 G1 c1 t s sl1 h1 hr
        refine ⟨x, ?_, go v H1 G1 c1 t _ s sl1 h1 hr fun _ => walks_str x⟩
        have r' := Rep.absorb h1 hr
        rw [ep] at r'
        cases r'
        rfl
      | lst o ys =>
        rw [ep] at e1 hfz
        cases e1
        refine .inl (.inl ⟨ρ, G, c, sl, hh, ?_⟩)
        rw [e]
        intro v H1 G1 c1 t s sl1 h1 hr
        have r' := Rep.absorb h1 hr
        rw [ep] at r'
        have ho : o = false := by simpa [PV.fz] using (Bool.and_eq_true_iff.mp (show (!o && PV.fzL xs) = true from hfz)).1
        subst ho
        generalize ez : ([] : List Cell) = z at r'
        cases r' with
        | @lstF a _ vs _ g1 r1 =>
          subst ez
          have hs : SqL X.K (addc G1 t) a vs := .of g1
          exact ⟨a, rfl, ⟨vs, h1.absorb.fz.sql hs⟩, go _ H1 G1 c1 t _ s sl1 h1 hr fun _ => walks_list hs r1⟩
      | lck ys =>
        rw [ep] at e1
        cases e1
        refine .inl (.inl ⟨ρ, G, c, sl, hh, ?_⟩)
        rw [e]
        intro v H1 G1 c1 t s sl1 h1 hr
        have r' := Rep.absorb h1 hr
        rw [ep] at r'
        generalize ez : ([] : List Cell) = z at r'
        cases r' with
        | @lck a _ vs g1 r1 => exact ⟨a, rfl, ⟨vs, h1.absorb.fz.sql g1⟩, go _ H1 G1 c1 t _ s sl1 h1 hr fun _ => walks_list g1 r1⟩
      | tup ys =>
        rw [ep] at e1
        cases e1
        refine .inl (.inr ⟨ρ, G, c, sl, hh, ?_⟩)
        rw [e]
        intro v H1 G1 c1 t s sl1 h1 hr
        have r' := Rep.absorb h1 hr
        rw [ep] at r'
        generalize ez : ([] : List Cell) = z at r'
        cases r' with
        | @tup a _ vs _ g1 r1 =>
          subst ez
          exact ⟨a, rfl, ⟨vs, .of (h1.absorb.fz _ _ g1)⟩, go _ H1 G1 c1 t _ s sl1 h1 hr fun _ => walks_tup g1 r1⟩
      | _ => rw [ep] at e1; cases e1
end
end Y
end
section
set_option Elab.async false
set_option linter.all false
set_option maxRecDepth 100000
set_option maxHeartbeats 2000000
set_option autoImplicit false
/-! Y7: range, enumerate, zip; comprehensions. -/
namespace Y
open PySem L2
variable {ad : Ad} {K : PySem.W.Frag} {G G' G1 G2 H H' H1 H2 : Hp}
section
variable {X : Cx} {W : WX} {cf : Cf} {pos : Pos}
theorem rngN1 {p : PV} {xs : List PV} (h : rngN [p] = some xs) : ∃ j, p = .int j ∧ -(2 ^ 62) ≤ j ∧ j < 2 ^ 62 ∧ xs = rngI 0 j.toNat := by
  unfold rngN at h
  split at h
  · rename_i j e
    cases e
    split at h
    · rename_i hj
      cases h
      have := of_decide_eq_true (show decide (-(2 ^ 62) ≤ j ∧ j < 2 ^ 62) = true from hj)
      exact ⟨j, rfl, this.1, this.2, rfl⟩
    · cases h
  · rename_i e; cases e
  · cases h
theorem rngN2 {p q : PV} {xs : List PV} (h : rngN [p, q] = some xs) : ∃ i j, p = .int i ∧ q = .int j ∧ (-(2 ^ 62) ≤ i ∧ i < 2 ^ 62 ∧ -(2 ^ 62) ≤ j ∧ j < 2 ^ 62) ∧ xs = rngI i (j - i).toNat := by
  unfold rngN at h
  split at h
  · rename_i e; cases e
  · rename_i i j e
    cases e
    split at h
    · rename_i hj
      cases h
      rw [Bool.and_eq_true] at hj
      have h1 := of_decide_eq_true (show decide (-(2 ^ 62) ≤ i ∧ i < 2 ^ 62) = true from hj.1)
      have h2 := of_decide_eq_true (show decide (-(2 ^ 62) ≤ j ∧ j < 2 ^ 62) = true from hj.2)
      exact ⟨i, j, rfl, rfl, ⟨h1.1, h1.2, h2.1, h2.2⟩, rfl⟩
    · cases h
  · cases h
theorem evO_len : ∀ {es : List IE} {ρ ρ' : Fr} {os : List OV}, evO cf es ρ = .ok os ρ' → os.length = es.length
  | [], ρ, ρ', os, h => by simp only [evO] at h; cases h; rfl
  | e :: es, ρ, ρ', os, h => by
    simp only [evO] at h
    cases e1 : opnd e (evE cf e) ρ with
    | bad => rw [e1] at h; cases h
    | ex x r => rw [e1] at h; cases h
    | ok o ρ1 =>
      rw [e1] at h
      simp only [Res.bind] at h
      cases e2 : evO cf es ρ1 with
      | bad => rw [e2] at h; cases h
      | ex x r => rw [e2] at h; cases h
      | ok os' ρ2 =>
        rw [e2] at h
        cases h
        simp [evO_len e2]
theorem rsvL_len {ρ : Fr} : ∀ {os : List OV} {ps : List PV}, rsvL ρ os = some ps → ps.length = os.length
  | [], ps, h => by cases h; rfl
  | o :: os, ps, h => by
    unfold rsvL at h
    cases e1 : rsv ρ o with
    | none => rw [e1] at h; cases h
    | some p =>
      cases e2 : rsvL ρ os with
      | none => rw [e1, e2] at h; cases h
      | some qs =>
        rw [e1, e2] at h
        cases h
        simp [rsvL_len e2]
theorem rd_rng {es : List IE} {σ : St} {H : Hp} {R : It → Hp → Prop} (h : rd ad X W (RelI ad X.K) (evSrc cf (.rng es)) σ H R) : rd ad X W (RelOs ad X.K) (evO cf es) σ H fun vs H1 => ∃ ps xs G c, VwL ad X.K G c ps vs ∧ ps.length = es.length ∧ rngN ps = some xs ∧ (∀ J, Walks ad X.K J xs G → R J H1) := by
  obtain ⟨ρ, G, c, sl, hh, ha⟩ := h
  simp only [evSrc] at ha
  refine ⟨ρ, G, c, sl, hh, ?_⟩
  cases e0 : evO cf es ρ with
  | bad => rw [e0] at ha; exact ha
  | ex x r => rw [e0] at ha; exact ha
  | ok os ρ1 =>
    rw [e0] at ha
    simp only [Res.bind] at ha
    intro vs H1 G1 c1 t s sl1 h1 ⟨et, hv⟩
    subst et
    have k1 := ha.go0 s h1
    have h1' := nilH h1
    cases e : (rsvL ρ1 os).bind rngN with
    | none => rw [e] at k1; exact k1.elim
    | some xs =>
      rw [e] at k1
      obtain ⟨ps, e1, e2⟩ := Option.bind_eq_some_iff.mp e
      exact ⟨ps, xs, G1, c1, hv.vw sl1 e1, (rsvL_len e1).trans (evO_len e0), e2, fun J hw => k1.calm sl1 h1' ⟨rfl, hw⟩⟩
theorem si_rng1 {tg a : Expr} {x : IE} {p : Pos} (hg : Gl X "range") (hm : X.mg "range" = none) (ha : SOs ad X W [a] (evO cf [x])) (hs : starEach [a] X.env = [(false, eval a X.env)]) : SI ad X W tg (.Call (.Name "range" p) [a] [] pos) (evSrc cf (.rng [x])) := (pi_range1 hg hm ha hs).imp fun σ H R hq =>
  rd_imp (rd_rng hq) fun vs H1 ⟨ps, xs, G, c, hv, el, e, k⟩ => by
    match ps, el, hv with
    | [p], _, .cons vp .nil =>
      obtain ⟨j, rfl, h1, h2, rfl⟩ := rngN1 e
      obtain rfl := vp.int
      exact ⟨j, rfl, h1, h2, k _ (walks_rng 0 _)⟩
theorem si_rng2 {tg a b : Expr} {x y : IE} {p : Pos} (hg : Gl X "range") (hm : X.mg "range" = none) (ha : SOs ad X W [a, b] (evO cf [x, y])) (hs : starEach [a, b] X.env = [(false, eval a X.env), (false, eval b X.env)]) (hs2 : starEach [b] X.env = [(false, eval b X.env)]) : SI ad X W tg (.Call (.Name "range" p) [a, b] [] pos) (evSrc cf (.rng [x, y])) := (pi_range2 hg hm ha hs hs2).imp fun σ H R hq =>
  rd_imp (rd_rng hq) fun vs H1 ⟨ps, xs, G, c, hv, el, e, k⟩ => by
    match ps, el, hv with
    | [p, q], _, .cons vp (.cons vq .nil) =>
      obtain ⟨i, j, rfl, rfl, h1, rfl⟩ := rngN2 e
      obtain rfl := vp.int
      obtain rfl := vq.int
      exact ⟨i, j, rfl, h1, k _ (walks_rng i _)⟩
theorem frz_lst {ad : Ad} {p : PV} {v : V} {xs : List PV} (r : Rep ad K G p v []) (e : lstOf p = some xs) : ∃ a vs, v = .ref a ∧ SqL K G a vs ∧ RepL ad K G xs vs [] := by
  obtain ⟨o, rfl⟩ := lstOf_some e
  generalize ez : ([] : List Cell) = z at r
  cases r with
  | lstF g r => subst ez; exact ⟨_, _, rfl, .of g, r⟩
  | lstO r => cases ez
theorem enmP_some {p : PV} {xs : List PV} (h : enmP [p] = some xs) : (∃ ys, (lstOf p = some ys ∨ p = .lck ys) ∧ xs = enmN 0 ys) := by
  unfold enmP at h
  split at h
  · rename_i o ys e; cases e; cases h; exact ⟨ys, .inl rfl, rfl⟩
  · rename_i ys e; cases e; cases h; exact ⟨ys, .inr rfl, rfl⟩
  · cases h
theorem argd_fz {ie : IE} {run : Fr → Res PV} {ρ ρ1 : Fr} {a : PV × Option Nat} (h : argd false ie run ρ = .ok a ρ1) : a.1.fz = true := by
  rw [argd_val rfl] at h
  cases e : run ρ with
  | bad => rw [e] at h; cases h
  | ex x r => rw [e] at h; cases h
  | ok p r => rw [e] at h; cases h; exact PV.frz_fz p
/-- a list that is read -/
theorem lck_lst {p : PV} {v : V} {t : List Cell} {ys : List PV} (r : Rep ad K G p v t) (hf : p.fz = true) (hys : lstOf p = some ys ∨ p = .lck ys) : ∃ b vs, v = .ref b ∧ SqL K G b vs ∧ RepL ad K G ys vs [] := by
  have et := r.nocell hf
  subst et
  rcases hys with hys | rfl
  · obtain ⟨o, rfl⟩ := lstOf_some hys
    have ho : o = false := by simpa [PV.fz] using (Bool.and_eq_true_iff.mp (show (!o && PV.fzL ys) = true from hf)).1
    subst ho
    exact frz_lst r rfl
  · generalize ez : ([] : List Cell) = z at r
    cases r with
    | @lck a _ vs g1 r1 => exact ⟨a, vs, rfl, g1, r1⟩
theorem si_enm {elts : List Expr} {kk : Nat} {tpos : Pos} {a : Expr} {x : IE} {p : Pos} (hg : Gl X "enumerate") (hm : X.mg "enumerate" = none) (ha : SE ad X W a (evE cf x)) (hs : starEach [a] X.env = [(false, eval a X.env)]) : SI ad X W (.Tuple elts kk tpos) (.Call (.Name "enumerate" p) [a] [] pos) (evSrc cf (.enm x)) :=
  (pi_enum hg hm (pa_cons (sa_val (b := false) (ie := x) rfl ha) pa_nil (by rw [hs]; rfl)) hs).imp fun σ H R hq => by
    obtain ⟨ρ, G, c, sl, hh, h⟩ := hq
    simp only [evSrc] at h
    refine ⟨ρ, G, c, sl, hh, ?_⟩
    cases e0 : argd false x (evE cf x) ρ with
    | bad => rw [e0] at h; exact h
    | ex x r => rw [e0] at h; exact h
    | ok a ρ1 =>
      rw [e0] at h
      simp only [Res.bind] at h
      have hf := argd_fz e0
      intro v1 H1 G1 c1 t1 s1 sl1 h1 ⟨r1, _⟩
      have et := r1.nocell hf
      subst et
      have h1' := nilH h1
      cases e : enmP [a.1] with
      | none => rw [e] at h; exact h.elim
      | some xs =>
        rw [e] at h
        have k1 := h.go0 s1 h1
        obtain ⟨ys, hys, rfl⟩ := enmP_some e
        obtain ⟨b, vs, rfl, hb, hr⟩ := lck_lst r1 hf hys
        exact ⟨b, vs, rfl, h1'.fz.sql hb, k1.calm sl1 h1' ⟨rfl, walks_enum hb hr⟩⟩
theorem zipP_some {p q : PV} {xs : List PV} (h : zipP [p, q] = some xs) : ∃ ys zs, lstOf p = some ys ∧ lstOf q = some zs ∧ xs = zipN ys zs := by
  unfold zipP at h
  split at h
  · rename_i o ys o2 zs e; cases e; cases h; exact ⟨ys, zs, rfl, rfl, rfl⟩
  · cases h
theorem si_zip {elts : List Expr} {kk : Nat} {tpos : Pos} {a b : Expr} {x y : IE} {p : Pos} (hg : Gl X "zip") (hm : X.mg "zip" = none) (ha : SE ad X W a (evE cf x)) (hb : SE ad X W b (evE cf y)) (hs : starEach [a, b] X.env = [(false, eval a X.env), (false, eval b X.env)]) (hs2 : starEach [b] X.env = [(false, eval b X.env)]) : SI ad X W (.Tuple elts kk tpos) (.Call (.Name "zip" p) [a, b] [] pos) (evSrc cf (.zp x y)) :=
  (pi_zip hg hm (pa_cons (sa_val (b := false) (ie := x) rfl ha) (pa_cons (sa_val (b := false) (ie := y) rfl hb) pa_nil (by rw [hs2]; rfl)) (by rw [hs, hs2])) (by rw [hs, hs2]) (by rw [hs2]; rfl)).imp fun σ H R hq => by
    obtain ⟨ρ, G, c, sl, hh, h⟩ := hq
    simp only [evSrc] at h
    refine ⟨ρ, G, c, sl, hh, ?_⟩
    cases e0 : argd false x (evE cf x) ρ with
    | bad => rw [e0] at h; exact h
    | ex x r => rw [e0] at h; exact h
    | ok a ρ1 =>
      rw [e0] at h
      simp only [Res.bind] at h
      have hf := argd_fz e0
      intro v1 H1 G1 c1 t1 s1 sl1 h1 ⟨r1, _⟩
      have et := r1.nocell hf
      subst et
      have h1' := nilH h1
      have k := h.go0 s1 h1
      refine ⟨ρ1, G1, c1, sl1, h1', ?_⟩
      cases e2 : argd false y (evE cf y) ρ1 with
      | bad => rw [e2] at k; exact k
      | ex x r => rw [e2] at k; exact k
      | ok b ρ2 =>
        rw [e2] at k
        simp only at k
        have hf2 := argd_fz e2
        intro v2 H2 G2 c2 t2 s2 sl2 h2 ⟨r2, _⟩
        have et := r2.nocell hf2
        subst et
        have h2' := nilH h2
        cases e : zipP [a.1, b.1] with
        | none => rw [e] at k; exact k.elim
        | some xs =>
          rw [e] at k
          have k1 := k.go0 s2 h2
          obtain ⟨ys, zs, hys, hzs, rfl⟩ := zipP_some e
          obtain ⟨d1, vs, rfl, hb1, hr1⟩ := lck_lst (r1.mono s2.fz) hf (.inl hys)
          obtain ⟨d2, ws, rfl, hb2, hr2⟩ := lck_lst r2 hf2 (.inl hzs)
          exact ⟨d1, d2, vs, ws, rfl, h2'.fz.sql hb1, h2'.fz.sql hb2, k1.calm sl2 h2' ⟨rfl, walks_zip hb1 hr1 hb2 hr2⟩⟩
end
end Y
end
section
set_option Elab.async false
set_option linter.all false
set_option maxRecDepth 100000
set_option maxHeartbeats 2000000
set_option autoImplicit false
/-! Y8: list comprehensions. -/
namespace Y
open PySem L2
variable {ad : Ad} {K : PySem.W.Frag} {G G' G1 G2 H H' H1 H2 : Hp}
abbrev W0 : WX := fun _ _ _ _ => False
/-- one turn of a comprehension -/
def turnC (cf : Cf) (elt : IE) (tg : IT) (ifs : List IE) : PV → Fr → Res (Option PV) := fun x ρ => match asg tg x ρ with
  | some ρ2 => (evIfs cf ifs ρ2).bind fun k ρ3 => if k then (evE cf elt ρ3).bind fun y ρ4 => .ok (some y) ρ4 else .ok none ρ3
  | none => .bad
theorem evE_comp {cf : Cf} {elt : IE} {tg : IT} {src : ISrc} {ifs : List IE} {own : List Nat} {ρ : Fr} : evE cf (.comp elt tg src ifs own) ρ = (evSrc cf src ρ).bind fun xs ρ1 =>
      match compL (turnC cf elt tg ifs) own xs (wipeF (frzAt ρ1 own) own) [] with
      | .ok ys ρ2 => .ok (.lst true ys) (backAt (frzAt ρ1 own) ρ2 own)
      | _ => .bad := by
  simp only [evE]
  rfl
theorem wipe_wipe (σ : St) (own : List Nat) : L2.wipe (L2.wipe σ own) own = L2.wipe σ own := (Touch.refl [] (L2.wipe σ own)).wipe (by simp)
theorem drop_cons {α : Type} {xs : List α} {i : Nat} {p : α} (h : xs[i]? = some p) : xs.drop i = p :: xs.drop (i + 1) := by
  obtain ⟨hi, e⟩ := List.getElem?_eq_some_iff.mp h
  rw [List.drop_eq_getElem_cons hi, e]
theorem perm_swap {a b t : List Cell} : ((a ++ b) ++ t).Perm ((a ++ t) ++ b) := by
  rw [List.append_assoc, List.append_assoc]
  exact List.perm_append_comm.append_left a
section
variable {X : Cx} {W : WX} {cf : Cf} {pos : Pos}
/-- what the comprehension gives, by what is left of its loop -/
def endC (ρf : Fr) (own : List Nat) (r : Res (List PV)) : Res PV := match r with
  | .ok ys ρ2 => .ok (.lst true ys) (backAt ρf ρ2 own)
  | _ => .bad
/-- one turn, then what is left -/
def stepC (turn : PV → Fr → Res (Option PV)) (own : List Nat) (F : Fr → List PV → Res PV) (p : PV) (ρ : Fr) (acc : List PV) : Res PV := match turn p ρ with
  | .ok (some y) ρ1 => if acc.length < sizeLine then F (wipeF ρ1 own) (acc ++ [y.frz]) else .bad
  | .ok none ρ1 => F (wipeF ρ1 own) acc
  | _ => .bad
theorem step_cons {turn : PV → Fr → Res (Option PV)} {own : List Nat} {ρf : Fr} {p : PV} {rest : List PV} {ρ : Fr} {acc : List PV} : endC ρf own (compL turn own (p :: rest) ρ acc) = stepC turn own (fun ρ acc => endC ρf own (compL turn own rest ρ acc)) p ρ acc := by
  simp only [compL, stepC]
  cases e : turn p ρ with
  | bad => rfl
  | ex x ρ1 => rfl
  | ok y ρ1 =>
    cases y with
    | none => rfl
    | some y =>
      dsimp only
      split <;> rfl
structure InvC (ad : Ad) (K : PySem.W.Frag) (W : WX) (σ : St) (G0 : Hp) (c0 : List Cell) (H0 : Hp) (Q : VK) (D : Addr) (own : List Nat) (F : Fr → List PV → Res PV) (H : Hp) : Prop where
  ex : ∃ ρ G c t acc accV, Slots ad K G ρ (L2.wipe σ own) c ∧ RepL ad K G acc accV t ∧ Hold G (c ++ (D, HO.lst accV) :: t) H ∧ Step G0 c0 H0 G (c ++ (D, HO.lst accV) :: t) H ∧ Aft ad K W σ (RelP ad K) G0 c0 H0 Q (F ρ acc)
theorem stop_C {σ : St} {G0 : Hp} {c0 : List Cell} {H0 : Hp} {Q : VK} {D : Addr} {own : List Nat} {ρf : Fr} {F : Fr → List PV → Res PV} (hn : ad.cur = none) (h : InvC ad K W σ G0 c0 H0 Q D own F H) (hF : ∀ ρ acc, F ρ acc = endC ρf own (.ok acc ρ) ∨ F ρ acc = .bad)
    (sf : Slots ad K G0 ρf σ c0) (hf : ∀ i ∈ own, ∀ p, ρf.at i = some p → p.fz = true) : Q (.ref D) H := by
  obtain ⟨ρ, G, c, t, acc, accV, sl, r, hh, st, a⟩ := h.ex
  rcases hF ρ acc with e | e
  case inr => rw [e] at a; exact a.elim
  rw [e] at a
  simp only [endC] at a
  obtain ⟨g1, c1, sl1, p1⟩ := sl.wipe hn own
  rw [wipe_wipe] at sl1
  have sl2 := sl1.unwipe hn
  obtain ⟨g2, c2, sl3, p2⟩ := sl2.put_back (ρ0 := ρf) own fun i hi p e => by
    obtain ⟨v, d, r', e1, e2, e3, e4⟩ := sf.out e
    have := e2.nocell (hf i hi p e)
    subst this
    exact ⟨v, e1, e2.mono st.fz⟩
  have pm : (c ++ (D, HO.lst accV) :: t).Perm ((g1 ++ g2) ++ (c2 ++ (D, HO.lst accV) :: t)) := by
    rw [← List.append_assoc]
    refine List.Perm.append_right _ ?_
    refine p1.trans ?_
    rw [List.append_assoc]
    exact p2.append_left g1
  exact a (.ref D) H G c2 ((D, .lst accV) :: t) ((st.perm (List.Perm.refl _) pm).less fun z hz => List.mem_append_right _ hz) sl3 (hh.perm pm).right (.lstO r)
theorem turn_C {σ : St} {G0 : Hp} {c0 : List Cell} {H0 : Hp} {Q : VK} {D : Addr} {own : List Nat} {tg : IT} {ifs : List IE} {elt : IE} {p : PV} {F : Fr → List PV → Res PV} (hn : ad.cur = none) (hs : ∀ j ∈ tg.slots, j ∈ own)
    {ρ : Fr} {G : Hp} {c t : List Cell} {acc : List PV} {accV : List V} (sl : Slots ad X.K G ρ (L2.wipe σ own) c) (r : RepL ad X.K G acc accV t) (hh : Hold G (c ++ (D, HO.lst accV) :: t) H) (st : Step G0 c0 H0 G (c ++ (D, HO.lst accV) :: t) H)
    (a : Aft ad X.K W σ (RelP ad X.K) G0 c0 H0 Q (stepC (turnC cf elt tg ifs) own F p ρ acc)) {x : V} (rx : Rep ad X.K G p x []) :
    rdG ad X tg x (L2.wipe σ own) H fun σ2 H2 => L2.wipe σ2 own = L2.wipe σ own ∧ rd ad X W0 RelB (evIfs cf ifs) σ2 H2 fun b H3 => if b = true then rd ad X W0 (RelP ad X.K) (evE cf elt) σ2 H3 fun y H4 => ∃ acc, H4 D = some (.lst acc) ∧ acc.length < sizeLine ∧ InvC ad X.K W σ G0 c0 H0 Q D own F (upd H4 D (.lst (acc ++ [y])))
      else InvC ad X.K W σ G0 c0 H0 Q D own F H3 := by
  simp only [stepC] at a
  cases e1 : asg tg p ρ with
  | none =>
    have e : turnC cf elt tg ifs p ρ = .bad := by unfold turnC; rw [e1]
    rw [e] at a; exact a.elim
  | some ρ2 =>
    have e : turnC cf elt tg ifs p ρ = (evIfs cf ifs ρ2).bind fun k ρ3 => if k then (evE cf elt ρ3).bind fun y ρ4 => .ok (some y) ρ4 else .ok none ρ3 := by unfold turnC; rw [e1]
    rw [e] at a
    refine ⟨ρ, G, c, p, ρ2, sl, hh.left, rx, e1, fun σ2 c2 sl2 ⟨g, pm⟩ to => ⟨to.wipe hs, ?_⟩⟩
    have pm' : (c ++ (D, HO.lst accV) :: t).Perm (g ++ (c2 ++ (D, HO.lst accV) :: t)) := by
      rw [← List.append_assoc]
      exact pm.append_right _
    have hh2 := (hh.perm pm').right
    have st2 : Step G0 c0 H0 G (c2 ++ (D, HO.lst accV) :: t) H := (st.perm (List.Perm.refl _) pm').less fun z hz => List.mem_append_right _ hz
    refine ⟨ρ2, G, c2, sl2, hh2.left, ?_⟩
    cases e2 : evIfs cf ifs ρ2 with
    | bad => rw [e2] at a; exact a.elim
    | ex y ρ3 => rw [e2] at a; exact a.elim
    | ok b ρ3 =>
      rw [e2] at a
      simp only [Res.bind] at a
      intro b' H3 G3 c3 t3 s3 sl3 h3 ⟨et, eb⟩
      subst et
      subst eb
      have s3' := nilL s3
      have h3' := nilH h3
      have hh3 := hh2.frame s3' h3'
      have st3 := st2.frame s3' hh2
      cases b with
      | false =>
        simp only [Bool.false_eq_true, if_false] at a ⊢
        obtain ⟨g4, c4, sl4, p4⟩ := sl3.wipe hn own
        rw [to.wipe hs] at sl4
        have pm4 : (c3 ++ (D, HO.lst accV) :: t).Perm (g4 ++ (c4 ++ (D, HO.lst accV) :: t)) := by
          rw [← List.append_assoc]
          exact p4.append_right _
        exact ⟨wipeF ρ3 own, G3, c4, t, acc, accV, sl4, r.mono s3.fz, (hh3.perm pm4).right, (st3.perm (List.Perm.refl _) pm4).less fun z hz => List.mem_append_right _ hz, a⟩
      | true =>
        simp only [if_true] at a ⊢
        refine ⟨ρ3, G3, c3, sl3, h3', ?_⟩
        cases e3 : evE cf elt ρ3 with
        | bad => rw [e3] at a; exact a.elim
        | ex y ρ3 => rw [e3] at a; exact a.elim
        | ok y ρ4 =>
          rw [e3] at a
          simp only at a
          split at a
          case isFalse => exact a.elim
          rename_i hlen
          intro v H4 G4 c4 t4 s4 sl4 h4 r4
          have r4' := Rep.absorb h4 r4
          have h4' := h4.absorb
          have s4' := s4.absorb h4
          have sl4' := sl4.mono (addc_sub h4.right)
          have hh4 := hh3.frame s4' h4'
          have st4 := st3.frame s4' hh3
          have r5 := (r.mono s3.fz).mono s4'.fz
          obtain ⟨g5, c5, sl5, p5⟩ := sl4'.wipe hn own
          rw [to.wipe hs] at sl5
          have pm5 : (c4 ++ (D, HO.lst accV) :: t).Perm (g5 ++ ((D, HO.lst accV) :: (c5 ++ t))) := by
            refine List.Perm.trans (p5.append_right _) ?_
            rw [List.append_assoc]
            exact List.Perm.append_left g5 List.perm_middle
          have hh5 := (hh4.perm pm5).right
          have st5 : Step G0 c0 H0 _ ((D, HO.lst accV) :: (c5 ++ t)) H4 := (st4.perm (List.Perm.refl _) pm5).less fun z hz => List.mem_append_right _ hz
          obtain ⟨w1, w2⟩ := hh5.write (.lst (accV ++ [v]))
          have pm6 : ((D, HO.lst (accV ++ [v])) :: (c5 ++ t)).Perm (c5 ++ (D, HO.lst (accV ++ [v])) :: t) := List.perm_middle.symm
          refine ⟨accV, ?_, by rw [← r5.length]; exact hlen, wipeF ρ4 own, _, c5, t, acc ++ [y.frz], accV ++ [v], sl5, by simpa using r5.append (RepL.cons (c := []) (cs := []) r4' RepL.nil), w1.perm pm6, (st5.trans w2 hh5).perm (List.Perm.refl _) pm6, a⟩
          exact hh5.at_ (D, HO.lst accV) List.mem_cons_self
theorem rd_comp {σ : St} {H : Hp} {Q : VK} {own : List Nat} {ie : IE} {it : IT} {src : ISrc} {iifs : List IE} (hn : ad.cur = none) (hsl : ∀ j ∈ it.slots, j ∈ own) (hq : rd ad X W (RelP ad X.K) (evE cf (.comp ie it src iifs own)) σ H Q) :
    tLc (rd ad X W (RelI ad X.K) (evSrc cf src)) (rdG ad X it) (rd ad X W0 RelB (evIfs cf iifs)) (rd ad X W0 (RelP ad X.K) (evE cf ie)) own σ H Q := by
  obtain ⟨ρ, G, c, sl, hh, h⟩ := hq
  rw [evE_comp] at h
  refine ⟨ρ, G, c, sl, hh, h.seq fun xs ρ1 J H1 G1 c1 t s1 sl1 h1 ⟨et, hw⟩ k1 D hD => ?_⟩
  subst et
  have s1' := nilL s1
  have h1' := nilH h1
  have k2 := k1.go s1' h1'
  obtain ⟨G2, c2, st2, h2, sl2⟩ := sl1.freeze h1' own
  have k3 := k2.go st2 h2
  obtain ⟨g, c3, sl3, p3⟩ := sl2.wipe hn own
  obtain ⟨n1, n2⟩ := h2.newO hD (.lst [])
  have pm : (c2 ++ [(D, HO.lst [])]).Perm (g ++ (c3 ++ [(D, HO.lst [])])) := by
    rw [← List.append_assoc]
    exact p3.append_right _
  refine ⟨fun i m H' => m = xs.length - i ∧ i ≤ xs.length ∧ InvC ad X.K W σ G2 c2 H1 Q D own (fun ρ acc => endC (frzAt ρ1 own) own (compL (turnC cf ie it iifs) own (xs.drop i) ρ acc)) H', ⟨_, rfl, Nat.zero_le _, ⟨_, G2, c3, [], [], [], sl3, .nil, (n1.perm pm).right, (n2.perm (List.Perm.refl _) pm).less fun z hz => List.mem_append_right _ hz, k3⟩⟩, ?_⟩
  rintro i m H' ⟨rfl, hi, hv⟩
  have hv' := hv
  obtain ⟨ρ', G', c', t, acc, accV, sl', r', hh', st', a'⟩ := hv'
  have w := hw i H' G' _ (st2.fz.trans st'.fz) hh'
  by_cases hlt : i < xs.length
  · obtain ⟨go, yl⟩ := w.1 hlt
    refine .inr ⟨go, fun H'' => InvC ad X.K W σ G2 c2 H1 Q D own (fun ρ acc => endC (frzAt ρ1 own) own (compL (turnC cf ie it iifs) own (xs.drop (i + 1)) ρ acc)) H'', fun H'' hv2 => ⟨_, by omega, rfl, hlt, hv2⟩, fun x H'' hy => ?_⟩
    obtain ⟨G3, p, sp, hp, ep, rp⟩ := yl x H'' hy
    rw [drop_cons ep, step_cons] at a'
    exact turn_C hn hsl (sl'.mono sp.fz) (r'.mono sp.fz) hp (st'.trans sp hh') a' rp
  · have e : i = xs.length := by omega
    subst e
    rw [List.drop_length] at hv
    exact .inl ⟨w.2 (Nat.le_refl _), stop_C hn hv (fun ρ acc => .inl rfl) sl2 fun i hi p e => frzAt_fz hi e⟩
theorem se_comp {elt tg iter : Expr} {ifs : List Expr} {scope : Scope} {own : List (Str × Nat)} {ie : IE} {it : IT} {src : ISrc} {iifs : List IE} (hn : ad.cur = none) (hc : X.calm = true) (hN : X.N.Nodup) (hi : SI ad X W tg iter (evSrc cf src)) (ok : BlkOk X.N X.env.scope scope own) (hsl : ∀ j ∈ it.slots, j ∈ own.map (·.2))
    (hg : ∀ (s : Shared) (H : Hp) (C : Addr) (cl : List (Str × Addr)) (fp : List Addr), PG (X.blk s H scope (compEnvC scope cl C X.env) fp) tg (rdG ad X it))
    (ht : ∀ (s : Shared) (H : Hp) (C : Addr) (cl : List (Str × Addr)) (fp : List Addr), PTs (X.blk s H scope (compEnvC scope cl C X.env) fp) ifs (rd ad X W0 RelB (evIfs cf iifs)))
    (he : ∀ (s : Shared) (H : Hp) (C : Addr) (cl : List (Str × Addr)) (fp : List Addr), PE (X.blk s H scope (compEnvC scope cl C X.env) fp) elt (rd ad X W0 (RelP ad X.K) (evE cf ie))) (hs : ∀ x, foldedSetIterable iter X.env x = pure x) :
    PE X (.ListComp elt [⟨tg, iter, ifs, 0⟩] scope pos) (rd ad X W (RelP ad X.K) (evE cf (.comp ie it src iifs (own.map (·.2))))) := (pe_lc hc hN hi ok hg ht he hs).imp fun σ H Q hq => rd_comp hn hsl hq
end
end Y
end
section
set_option Elab.async false
set_option linter.all false
set_option maxRecDepth 100000
set_option maxHeartbeats 2000000
set_option autoImplicit false
/-! Y9: statements. -/
namespace Y
open PySem L2
variable {ad : Ad} {K : PySem.W.Frag} {G G' G1 G2 H H' H1 H2 : Hp}
/-- the slots pr stand as at the start -/
structure Keep (pr : List Nat) (σ0 σ : St) : Prop where
  len : σ.length = σ0.length
  at_ : ∀ j ∈ pr, σ[j]? = σ0[j]?
theorem Keep.refl (pr : List Nat) (σ : St) : Keep pr σ σ := ⟨rfl, fun _ _ => rfl⟩
theorem Keep.touch {pr js : List Nat} {σ0 σ σ' : St} (k : Keep pr σ0 σ) (t : Touch js σ σ') (h : ∀ j ∈ js, j ∉ pr) : Keep pr σ0 σ' :=
  ⟨t.len.trans k.len, fun j hj => (t.out j fun z => h j z hj).trans (k.at_ j hj)⟩
theorem Keep.set {pr : List Nat} {σ0 σ : St} (k : Keep pr σ0 σ) {i : Nat} {x : Option V} (h : i ∉ pr) : Keep pr σ0 (σ.set i x) := k.touch Touch.set (by simpa using h)
structure Pt where
  pr : List Nat
  σ0 : St
abbrev Pt.kp (P : Pt) (σ : St) : Prop := Keep P.pr P.σ0 σ
/-- what is wanted behind a statement's result -/
def AftS (ad : Ad) (K : PySem.W.Frag) (W : WX) (P : Pt) (D : Ends) (G : Hp) (c : List Cell) (H : Hp) : Res Fl → Prop
  | .ok .nx ρ => ∀ σ' H' G' c', P.kp σ' → Step G c H G' c' H' → Slots ad K G' ρ σ' c' → Hold G' c' H' → D.nx σ' H'
  | .ok .bk ρ => ∀ σ' H' G' c', P.kp σ' → Step G c H G' c' H' → Slots ad K G' ρ σ' c' → Hold G' c' H' → D.bk σ' H'
  | .ok .ct ρ => ∀ σ' H' G' c', P.kp σ' → Step G c H G' c' H' → Slots ad K G' ρ σ' c' → Hold G' c' H' → D.ct σ' H'
  | .ok (.rt p) ρ => ∀ v σ' H' G' c' t, P.kp σ' → Step G c H G' (c' ++ t) H' → Slots ad K G' ρ σ' c' → Hold G' (c' ++ t) H' → Rep ad K G' p v t → D.rt v H'
  | .ex x ρ => ∀ d σ' H' G' c', P.kp σ' → Step G c H G' c' H' → Slots ad K G' ρ σ' c' → Hold G' c' H' → XRep ad K G' x d → W (.ref (ad x.cls)) (some d) σ' H'
  | .bad => False
def rdS (ad : Ad) (X : Cx) (W : WX) (P : Pt) (m : Fr → Res Fl) : TS := fun D σ H => ∃ ρ G c, P.kp σ ∧ Slots ad X.K G ρ σ c ∧ Hold G c H ∧ AftS ad X.K W P D G c H (m ρ)
section
variable {X : Cx} {W : WX} {P : Pt} {cf : Cf} {pos : Pos} {D : Ends}
theorem AftS.go {r : Res Fl} {c c1 : List Cell} (h : AftS ad K W P D G c H r) (s : Step G c H G1 c1 H1) (h1 : Hold G1 c1 H1) : AftS ad K W P D G1 c1 H1 r := by
  cases r with
  | ok f ρ =>
    cases f with
    | nx => exact fun σ' H' G' c' kp s2 sl hh => h σ' H' G' c' kp (s.trans s2 h1) sl hh
    | bk => exact fun σ' H' G' c' kp s2 sl hh => h σ' H' G' c' kp (s.trans s2 h1) sl hh
    | ct => exact fun σ' H' G' c' kp s2 sl hh => h σ' H' G' c' kp (s.trans s2 h1) sl hh
    | rt p => exact fun v σ' H' G' c' t kp s2 sl hh => h v σ' H' G' c' t kp (s.trans s2 h1) sl hh
  | ex x ρ => exact fun d σ' H' G' c' kp s2 sl hh => h d σ' H' G' c' kp (s.trans s2 h1) sl hh
  | bad => exact h
theorem AftS.go0 {r : Res Fl} {c c1 : List Cell} (h : AftS ad K W P D G c H r) (s : Step G c H G1 (c1 ++ []) H1) (h1 : Hold G1 (c1 ++ []) H1) : AftS ad K W P D G1 c1 H1 r := by
  rw [List.append_nil] at s h1
  exact h.go s h1
/-- an expression ahead of what the statement does -/
theorem AftS.seq {α β : Type} {R : RRel α β} {σ : St} {c : List Cell} {r : Res α} {f : α → Fr → Res Fl} {Q : β → Hp → Prop} (hp : P.kp σ) (h : AftS ad K W P D G c H (r.bind f))
    (k : ∀ a ρ v H1 G1 c1 t, Step G c H G1 (c1 ++ t) H1 → Slots ad K G1 ρ σ c1 → Hold G1 (c1 ++ t) H1 → R σ G1 a v t → AftS ad K W P D G c H (f a ρ) → Q v H1) : Aft ad K W σ R G c H Q r := by
  cases r with
  | ok a ρ => exact fun v H' G' c' t s sl hh hr => k a ρ v H' G' c' t s sl hh hr h
  | ex x ρ => exact fun d H' G' c' s sl hh hx => h d σ H' G' c' hp s sl hh hx
  | bad => exact h
theorem AftS.nx {σ : St} {c : List Cell} {ρ : Fr} (h : AftS ad K W P D G c H (.ok .nx ρ)) (hp : P.kp σ) (sl : Slots ad K G ρ σ c) (hh : Hold G c H) : D.nx σ H := h σ H G c hp Step.refl sl hh
theorem _root_.L2.PS.imp {e : Stmt} {t t' : TS} (h : PS X e t) (i : ∀ D σ H, t' D σ H → t D σ H) : PS X e t' := ⟨fun pins s σ H D I hw => h.run pins s σ H D I (i D σ H hw)⟩
theorem _root_.L2.PSs.imp {e : List Stmt} {t t' : TS} (h : PSs X e t) (i : ∀ D σ H, t' D σ H → t D σ H) : PSs X e t' := ⟨fun pins s σ H D I hw => h.run pins s σ H D I (i D σ H hw)⟩
abbrev SS (ad : Ad) (X : Cx) (W : WX) (P : Pt) (st : Stmt) (m : Fr → Res Fl) : Prop := PS X st (rdS ad X W P m)
abbrev SB (ad : Ad) (X : Cx) (W : WX) (P : Pt) (st : List Stmt) (m : Fr → Res Fl) : Prop := PSs X st (rdS ad X W P m)
/-! ### what a block is made of -/
theorem sb_nil : SB ad X W P [] (evB cf []) := pss_nil.imp fun D σ H ⟨ρ, G, c, kp, sl, hh, h⟩ => by
  simp only [evB] at h
  exact h.nx kp sl hh
theorem aft_seqS {c : List Cell} {r : Res Fl} {f : Fr → Res Fl} (h : AftS ad X.K W P D G c H (match r with
    | .ok .nx ρ1 => f ρ1
    | z => z)) : AftS ad X.K W P { D with nx := rdS ad X W P f D } G c H r := by
  cases r with
  | ok g ρ =>
    cases g with
    | nx => exact fun σ' H' G' c' kp s sl hh => ⟨ρ, G', c', kp, sl, hh, h.go s hh⟩
    | bk => exact h
    | ct => exact h
    | rt p => exact h
  | ex x ρ => exact h
  | bad => exact h
theorem sb_cons {st : Stmt} {rest : List Stmt} {s : IS} {r : List IS} (h1 : SS ad X W P st (evS cf s)) (h2 : SB ad X W P rest (evB cf r)) : SB ad X W P (st :: rest) (evB cf (s :: r)) := (pss_cons h1 h2).imp fun D σ H ⟨ρ, G, c, kp, sl, hh, h⟩ => by
  simp only [evB] at h
  exact ⟨ρ, G, c, kp, sl, hh, aft_seqS h⟩
theorem ss_pass : SS ad X W P (.Pass pos) (evS cf .pas) := ps_pass.imp fun D σ H ⟨ρ, G, c, kp, sl, hh, h⟩ => by
  simp only [evS] at h
  exact h.nx kp sl hh
theorem ss_doc {x : Str} {j : Nat} {pos' : Pos} : SS ad X W P (.Expr (.Constant (.str x) j pos) pos') (evS cf .pas) := ps_doc.imp fun D σ H ⟨ρ, G, c, kp, sl, hh, h⟩ => by
  simp only [evS] at h
  exact h.nx kp sl hh
theorem ss_break : SS ad X W P (.Break pos) (evS cf .brk) := ps_break.imp fun D σ H ⟨ρ, G, c, kp, sl, hh, h⟩ => by
  simp only [evS] at h
  exact h σ H G c kp Step.refl sl hh
theorem ss_continue : SS ad X W P (.Continue pos) (evS cf .cnt) := ps_continue.imp fun D σ H ⟨ρ, G, c, kp, sl, hh, h⟩ => by
  simp only [evS] at h
  exact h σ H G c kp Step.refl sl hh
theorem ss_ret {e : Expr} {ie : IE} (he : SE ad X W e (evE cf ie)) : SS ad X W P (.Return (some e) pos) (evS cf (.ret ie)) := (ps_ret he).imp fun D σ H ⟨ρ, G, c, kp, sl, hh, h⟩ => by
  simp only [evS] at h
  exact ⟨ρ, G, c, sl, hh, h.seq kp fun p ρ1 v H1 G1 c1 t s1 sl1 h1 r1 k1 => k1 v σ H1 G1 c1 t kp s1 sl1 h1 r1⟩
theorem ss_retN : SS ad X W P (.Return none pos) (evS cf .retN) := ps_retN.imp fun D σ H ⟨ρ, G, c, kp, sl, hh, h⟩ => by
  simp only [evS] at h
  exact h .non σ H G c [] kp (toL Step.refl) sl (toH hh) .non
theorem ss_expr {e : Expr} {ie : IE} (he : SE ad X W e (evE cf ie)) (hs : swapsWith e none pos.line X.env = pure false) : SS ad X W P (.Expr e pos) (evS cf (.exp ie)) := (ps_expr he hs).imp fun D σ H ⟨ρ, G, c, kp, sl, hh, h⟩ => by
  simp only [evS] at h
  refine ⟨ρ, G, c, sl, hh, h.seq kp fun p ρ1 v H1 G1 c1 t s1 sl1 h1 r1 k1 => ?_⟩
  exact k1 σ H1 G1 c1 kp (s1.less fun z hz => List.mem_append_left _ hz) sl1 h1.left
/-! ### names are stored -/
/-- a slot is written -/
theorem put_nx {σ : St} {ρ : Fr} {c c1 t : List Cell} {i : Nat} {p : PV} {v : V} (hi : i ∉ P.pr ∧ Free ad i) (hl : i < ρ.length) (h : AftS ad K W P D G c H (.ok .nx (ρ.set i (some p)))) (kp : P.kp σ) (s : Step G c H G1 (c1 ++ t) H1) (sl : Slots ad K G1 ρ σ c1) (hh : Hold G1 (c1 ++ t) H1) (r : Rep ad K G1 p v t) : D.nx (σ.set i (some v)) H1 := by
  obtain ⟨d, c2, sl2, pm⟩ := sl.set hi.2 hl r
  have pm' : (c1 ++ t).Perm (d ++ c2) := (List.perm_append_comm).trans pm
  exact h _ H1 G1 c2 (kp.set hi.1) ((s.perm (List.Perm.refl _) pm').less fun z hz => List.mem_append_right _ hz) sl2 (hh.perm pm').right
theorem aft_set {σ : St} {ρ : Fr} {c c1 t : List Cell} {i : Nat} {p : PV} {v : V} (hi : i ∉ P.pr ∧ Free ad i) (h : AftS ad K W P D G c H (if i < ρ.length then .ok .nx (ρ.set i (some p)) else .bad)) (kp : P.kp σ) (s : Step G c H G1 (c1 ++ t) H1) (sl : Slots ad K G1 ρ σ c1) (hh : Hold G1 (c1 ++ t) H1) (r : Rep ad K G1 p v t) : D.nx (σ.set i (some v)) H1 := by
  split at h
  · rename_i hl
    exact put_nx hi hl h kp s sl hh r
  · exact h.elim
theorem rd_set {i : Nat} {ie : IE} {σ : St} {H : Hp} (hi : i ∉ P.pr ∧ Free ad i) (hq : rdS ad X W P (evS cf (.set i ie)) D σ H) : tAsg (rd ad X W (RelP ad X.K) (evE cf ie)) (gName i) D σ H := by
  obtain ⟨ρ, G, c, kp, sl, hh, h⟩ := hq
  simp only [evS] at h
  exact ⟨ρ, G, c, sl, hh, h.seq kp fun p ρ1 v H1 G1 c1 t s1 sl1 h1 r1 k1 => aft_set hi k1 kp s1 sl1 h1 r1⟩
theorem ss_set {i : Nat} {x : Str} {e : Expr} {ie : IE} {pos' : Pos} (h : PS X (.Assign [.Name x pos'] e pos) (tAsg (rd ad X W (RelP ad X.K) (evE cf ie)) (gName i))) (hi : i ∉ P.pr ∧ Free ad i) : SS ad X W P (.Assign [.Name x pos'] e pos) (evS cf (.set i ie)) := h.imp fun _ _ _ hq => rd_set hi hq
theorem ss_asg {tg e : Expr} {it : IT} {ie : IE} (h : PS X (.Assign [tg] e pos) (tAsg (rd ad X W (RelP ad X.K) (evE cf ie)) (rdG ad X it))) (hi : ∀ j ∈ it.slots, j ∉ P.pr) : SS ad X W P (.Assign [tg] e pos) (evS cf (.asg it ie)) := h.imp fun D σ H ⟨ρ, G, c, kp, sl, hh, h⟩ => by
  simp only [evS] at h
  refine ⟨ρ, G, c, sl, hh, h.seq kp fun p ρ1 v H1 G1 c1 t s1 sl1 h1 r1 k1 => ?_⟩
  cases e : asg it p.frz ρ1 with
  | none => rw [e] at k1; exact k1.elim
  | some ρ2 =>
    rw [e] at k1
    exact ⟨ρ1, addc G1 t, c1, p.frz, ρ2, sl1.mono (addc_sub h1.right), h1.absorb, Rep.absorb h1 r1, e, fun σ' c' sl2 ⟨g, pm⟩ to =>
      k1 σ' H1 _ c' (kp.touch to hi) (((s1.absorb h1).perm (List.Perm.refl _) pm).less fun z hz => List.mem_append_right _ hz) sl2 (h1.absorb.perm pm).right⟩
theorem ss_aug {i : Nat} {x : Str} {e : Expr} {ie : IE} {pos' : Pos} {op : Operator} {f : Int → Int → Int} (h : PS X (.AugAssign (.Name x pos') op e pos) (tAug i (rd ad X W (RelP ad X.K) (evE cf ie)) (ipI f))) (hi : i ∉ P.pr ∧ Free ad i)
    (ho : (op = .Add ∧ f = fun a b => a + b) ∨ (op = .Sub ∧ f = fun a b => a - b)) : SS ad X W P (.AugAssign (.Name x pos') op e pos) (evS cf (.aug i op ie)) := h.imp fun D σ H ⟨ρ, G, c, kp, sl, hh, h⟩ => by
  simp only [evS] at h
  cases e0 : ρ.at i with
  | none => rw [e0] at h; exact h.elim
  | some q =>
    rw [e0] at h
    obtain ⟨v, d, r, e1, e2, e3, e4⟩ := sl.out e0
    refine ⟨v, e1, ρ, G, c, sl, hh, AftS.seq kp h fun p ρ1 w H1 G1 c1 t s1 sl1 h1 r1 k1 => ?_⟩
    have r1' : Rep ad X.K G1 p w t := r1
    cases q with
    | int a =>
      cases p with
      | int b =>
        cases e2
        cases r1'
        have hl : i < ρ1.length := by
          rw [sl1.length]
          exact (List.getElem?_eq_some_iff.mp e1).1
        rcases ho with ⟨rfl, rfl⟩ | ⟨rfl, rfl⟩
        · exact ⟨a, b, rfl, rfl, put_nx (p := .int (a + b)) hi hl k1 kp s1 sl1 h1 (.int _)⟩
        · exact ⟨a, b, rfl, rfl, put_nx (p := .int (a - b)) hi hl k1 kp s1 sl1 h1 (.int _)⟩
      | _ => exact k1.elim
    | _ => exact k1.elim
/-! ### if, while, for -/
theorem ss_if {t : Expr} {a b : List Stmt} {it : IE} {ia ib : List IS} (ht : ST ad X W t (evT cf it (evE cf it))) (ha : SB ad X W P a (evB cf ia)) (hb : SB ad X W P b (evB cf ib)) : SS ad X W P (.If t a b pos) (evS cf (.ife it ia ib)) := (ps_if ht ha hb).imp fun D σ H ⟨ρ, G, c, kp, sl, hh, h⟩ => by
  simp only [evS] at h
  refine ⟨ρ, G, c, sl, hh, AftS.seq (R := RelB) kp h fun k ρ1 k' H1 G1 c1 t s1 sl1 h1 ⟨et, ek⟩ k1 => ?_⟩
  subst et
  subst ek
  have k2 := k1.go0 s1 h1
  cases k with
  | true =>
    rw [if_pos rfl] at k2 ⊢
    exact ⟨ρ1, G1, c1, kp, sl1, nilH h1, k2⟩
  | false =>
    rw [if_neg Bool.false_ne_true] at k2 ⊢
    exact ⟨ρ1, G1, c1, kp, sl1, nilH h1, k2⟩
/-- the loop's end as its body's next turn -/
theorem aft_turn {c : List Cell} {r : Res Fl} {f : Fr → Res Fl} {N : St → Hp → Prop} (h : AftS ad K W P D G c H (match r with
    | .ok .nx ρ1 => f ρ1
    | .ok .ct ρ1 => f ρ1
    | .ok .bk ρ1 => .ok .nx ρ1
    | z => z)) (hN : ∀ σ' H' G' c' ρ', P.kp σ' → Step G c H G' c' H' → Slots ad K G' ρ' σ' c' → Hold G' c' H' → AftS ad K W P D G c H (f ρ') → N σ' H') : AftS ad K W P { D with nx := N, ct := N, bk := D.nx } G c H r := by
  cases r with
  | ok g ρ =>
    cases g with
    | nx => exact fun σ' H' G' c' kp s sl hh => hN σ' H' G' c' ρ kp s sl hh h
    | ct => exact fun σ' H' G' c' kp s sl hh => hN σ' H' G' c' ρ kp s sl hh h
    | bk => exact h
    | rt p => exact h
  | ex x ρ => exact h
  | bad => exact h
theorem ss_while {t : Expr} {body : List Stmt} {it : IE} {ib : List IS} (hp : PassesOwn (model X.prog X.w) X.A X.env X.xe) (ht : ST ad X W t (evT cf it (evE cf it))) (hb : SB ad X W P body (evB cf ib)) : SS ad X W P (.While t body [] pos) (evS cf (.whl it ib)) := (ps_while hp ht hb).imp fun D σ H h => by
  refine ⟨fun m => rdS ad X W P (whlL (evT cf it (evE cf it)) (evB cf ib) m) D, ⟨cf.fuel, ?_⟩, ?_⟩
  · obtain ⟨ρ, G, c, kp, sl, hh, h⟩ := h
    simp only [evS] at h
    exact ⟨ρ, G, c, kp, sl, hh, h⟩
  rintro m σ' H' ⟨ρ', G', c', kp', sl', hh', a⟩
  cases m with
  | zero => exact a.elim
  | succ n =>
    simp only [whlL] at a
    refine ⟨ρ', G', c', sl', hh', AftS.seq (R := RelB) kp' a fun k ρ1 k' H1 G1 c1 t s1 sl1 h1 ⟨et, ek⟩ k1 => ?_⟩
    subst et
    subst ek
    have s1' := nilL s1
    have h1' := nilH h1
    have k2 := k1.go s1' h1'
    cases k with
    | false =>
      rw [if_neg Bool.false_ne_true] at k2 ⊢
      exact k2.nx kp' sl1 h1'
    | true =>
      rw [if_pos rfl] at k2 ⊢
      exact ⟨rdS ad X W P (whlL (evT cf it (evE cf it)) (evB cf ib) n) D, fun σ2 H2 hw => ⟨n, Nat.lt_succ_self n, hw⟩, ρ1, G1, c1, kp', sl1, h1', aft_turn k2 fun σ2 H2 G2 c2 ρ2 kp2 s2 sl2 h2 a2 => ⟨ρ2, G2, c2, kp2, sl2, h2, a2.go s2 h2⟩⟩
def turnF (cf : Cf) (tg : IT) (body : List IS) : PV → Fr → Res Fl := fun x ρ => match asg tg x ρ with
  | some ρ2 => evB cf body ρ2
  | none => .bad
theorem ss_for {tg iter : Expr} {body : List Stmt} {it : IT} {src : ISrc} {ib : List IS} (hp : PassesOwn (model X.prog X.w) X.A X.env X.xe) (hc : X.calm = true) (hi : SI ad X W tg iter (evSrc cf src)) (hg : PG X tg (rdG ad X it)) (hb : SB ad X W P body (evB cf ib)) (hs : ∀ x, foldedSetIterable iter X.env x = pure x)
    (hj : ∀ j ∈ it.slots, j ∉ P.pr) : SS ad X W P (.For tg iter body [] pos) (evS cf (.fors it src ib)) := (ps_for hp hc hi hg hb hs).imp fun D σ H ⟨ρ, G, c, kp, sl, hh, h⟩ => by
  simp only [evS] at h
  change AftS ad X.K W P D G c H ((evSrc cf src ρ).bind fun xs ρ1 => forL (turnF cf it ib) xs ρ1) at h
  refine ⟨ρ, G, c, sl, hh, AftS.seq (R := RelI ad X.K) kp h fun xs ρ1 J H1 G1 c1 t s1 sl1 h1 ⟨et, hw⟩ k1 => ?_⟩
  subst et
  have h1' := nilH h1
  refine ⟨fun i m σ' H' => m = xs.length - i ∧ i ≤ xs.length ∧ ∃ ρ' G' c', P.kp σ' ∧ Slots ad X.K G' ρ' σ' c' ∧ Hold G' c' H' ∧ Sub G1 G' ∧ AftS ad X.K W P D G' c' H' (forL (turnF cf it ib) (xs.drop i) ρ'), ⟨_, rfl, Nat.zero_le _, ρ1, G1, c1, kp, sl1, h1', Sub.refl _, k1.go0 s1 h1⟩, ?_⟩
  rintro i m σ' H' ⟨rfl, hi, ρ', G', c', kp', sl', hh', sb, a⟩
  have w := hw i H' G' c' sb hh'
  by_cases hlt : i < xs.length
  · obtain ⟨go, yl⟩ := w.1 hlt
    refine .inr ⟨go, fun σ2 H2 => ∃ ρ2 G2 c2, P.kp σ2 ∧ Slots ad X.K G2 ρ2 σ2 c2 ∧ Hold G2 c2 H2 ∧ Sub G1 G2 ∧ AftS ad X.K W P D G2 c2 H2 (forL (turnF cf it ib) (xs.drop (i + 1)) ρ2), fun σ2 H2 hv2 => ⟨_, by omega, rfl, hlt, hv2⟩, fun x H'' hy => ?_⟩
    obtain ⟨G3, p, sp, hp3, ep, rp⟩ := yl x H'' hy
    rw [drop_cons ep] at a
    simp only [forL] at a
    have a3 := a.go sp hp3
    have sl3 := sl'.mono sp.fz
    have sb3 := sb.trans sp.fz
    cases e1 : asg it p ρ' with
    | none =>
      have e : turnF cf it ib p ρ' = .bad := by unfold turnF; rw [e1]
      rw [e] at a3; exact a3.elim
    | some ρ2 =>
      have e : turnF cf it ib p ρ' = evB cf ib ρ2 := by unfold turnF; rw [e1]
      rw [e] at a3
      refine ⟨ρ', G3, c', p, ρ2, sl3, hp3, rp, e1, fun σ2 c2 sl2 ⟨g, pm⟩ to => ?_⟩
      have hh2 := (hp3.perm pm).right
      have st2 : Step G3 c' H'' G3 c2 H'' := ((Step.refl (c := c')).perm (List.Perm.refl _) pm).less fun z hz => List.mem_append_right _ hz
      refine ⟨ρ2, G3, c2, kp'.touch to hj, sl2, hh2, aft_turn (a3.go st2 hh2) fun σ4 H4 G4 c4 ρ4 kp4 s4 sl4 h4 a4 => ⟨ρ4, G4, c4, kp4, sl4, h4, sb3.trans s4.fz, a4.go s4 h4⟩⟩
  · have e : i = xs.length := by omega
    subst e
    rw [List.drop_length] at a
    simp only [forL] at a
    exact .inl ⟨w.2 (Nat.le_refl _), a.nx kp' sl' hh'⟩
end
end Y
end
section
set_option Elab.async false
set_option linter.all false
set_option maxRecDepth 100000
set_option maxHeartbeats 2000000
set_option autoImplicit false
/-! Y9v: the list in a slot is walked as it stands at each turn. -/
namespace Y
open PySem L2
variable {ad : Ad} {K : PySem.W.Frag} {G G' G1 G2 H H' H1 H2 : Hp}
theorem view_lst {ρ : Fr} {σ : St} {c : List Cell} {i : Nat} {o : Bool} {xs : List PV} (sl : Slots ad K G ρ σ c) (hh : Hold G c H) (e : ρ.at i = some (.lst o xs)) : ∃ a vs d, σ[i]? = some (some (.ref a)) ∧ SqL K H a vs ∧ RepL ad K G xs vs d := by
  obtain ⟨v, d, r, e1, e2, e3, e4⟩ := sl.out e
  have vw : Vw ad K G c (.lst o xs) v := ⟨d, e2, fun z hz => e4.symm.mem_iff.mp (List.mem_append_left _ hz)⟩
  obtain ⟨a, vs, d', rfl, h1, h2, _⟩ := vw.lst hh
  exact ⟨a, vs, d', e1, .of h1, h2⟩
theorem view_len {ρ : Fr} {σ : St} {c : List Cell} {i n : Nat} {a : Addr} (sl : Slots ad K G ρ σ c) (hh : Hold G c H) (hσ : σ[i]? = some (some (.ref a))) (e : vwLen ρ i n = true) : ∃ vs, SqL K H a vs ∧ vs.length = n := by
  unfold vwLen at e
  split at e
  · rename_i o xs e1
    obtain ⟨a', vs, d, h1, h2, h3⟩ := view_lst sl hh e1
    rw [hσ] at h1
    cases h1
    exact ⟨vs, h2, by rw [← h3.length]; exact of_decide_eq_true e⟩
  · cases e
theorem view_at {ρ : Fr} {σ : St} {c : List Cell} {i n j : Nat} {a : Addr} {x : PV} (sl : Slots ad K G ρ σ c) (hh : Hold G c H) (hσ : σ[i]? = some (some (.ref a))) (e : vwAt ρ i n j = some x) : ∃ vs v, SqL K H a vs ∧ vs[j]? = some v ∧ Rep ad K G x v [] := by
  unfold vwAt at e
  split at e
  · rename_i o xs e1
    split at e
    · split at e
      · rename_i y e2
        split at e
        · rename_i hf
          cases e
          obtain ⟨a', vs, d, h1, h2, h3⟩ := view_lst sl hh e1
          rw [hσ] at h1
          cases h1
          obtain ⟨w, d2, q1, q2, _⟩ := h3.get e2
          have := q2.nocell hf
          subst this
          exact ⟨vs, w, h2, q1, q2⟩
        · cases e
      · cases e
    · cases e
  · cases e
theorem len_start {ρ : Fr} {σ : St} {c : List Cell} {i n : Nat} (sl : Slots ad K G ρ σ c) (hh : Hold G c H) (e : lenAt ρ i = some n) : ∃ a vs, σ[i]? = some (some (.ref a)) ∧ SqL K H a vs := by
  unfold lenAt at e
  split at e
  · rename_i o xs e1
    obtain ⟨a, vs, d, h1, h2, _⟩ := view_lst sl hh e1
    exact ⟨a, vs, h1, h2⟩
  · cases e
theorem stepV {turn : PV → Fr → Res (Option PV)} {own : List Nat} {ρf : Fr} {i n k : Nat} {p : PV} {ρ : Fr} {acc : List PV} (e : vwAt ρ i n (n - (k + 1)) = some p) : endC ρf own (compV turn own i n (k + 1) ρ acc) = stepC turn own (fun ρ acc => endC ρf own (compV turn own i n k ρ acc)) p ρ acc := by
  simp only [compV, stepC, e]
  cases e : turn p ρ with
  | bad => rfl
  | ex x ρ1 => rfl
  | ok y ρ1 =>
    cases y with
    | none => rfl
    | some y =>
      dsimp only
      split <;> rfl
section
variable {X : Cx} {W : WX} {P : Pt} {cf : Cf} {pos : Pos} {D : Ends}
theorem rd_compv {σ : St} {H : Hp} {Q : VK} {own : List Nat} {ie : IE} {it : IT} {i : Nat} {iifs : List IE} (hn : ad.cur = none) (hsl : ∀ j ∈ it.slots, j ∈ own) (hq : rd ad X W (RelP ad X.K) (evE cf (.compv ie it i iifs own)) σ H Q) :
    tLc (iList X.K (tVar i)) (rdG ad X it) (rd ad X W0 RelB (evIfs cf iifs)) (rd ad X W0 (RelP ad X.K) (evE cf ie)) own σ H Q := by
  obtain ⟨ρ, G, c, sl, hh, h⟩ := hq
  simp only [evE] at h
  cases en : lenAt ρ i with
  | none => rw [en] at h; exact h.elim
  | some n =>
    cases eo : own.contains i with
    | true => rw [en, eo] at h; exact h.elim
    | false =>
      rw [en, eo] at h
      change Aft ad X.K W σ (RelP ad X.K) G c H Q (endC (frzAt ρ own) own (compV (turnC cf ie it iifs) own i n n (wipeF (frzAt ρ own) own) [])) at h
      have hi : i ∉ own := fun z => by rw [List.contains_iff_mem.mpr z] at eo; cases eo
      obtain ⟨a, vs0, hσ, hs0⟩ := len_start sl hh en
      refine ⟨_, hσ, a, rfl, ⟨vs0, hs0⟩, fun D hD => ?_⟩
      obtain ⟨G2, c2, st2, h2, sl2⟩ := sl.freeze hh own
      have k3 := h.go st2 h2
      obtain ⟨g, c3, sl3, p3⟩ := sl2.wipe hn own
      obtain ⟨n1, n2⟩ := h2.newO hD (.lst [])
      have pm : (c2 ++ [(D, HO.lst [])]).Perm (g ++ (c3 ++ [(D, HO.lst [])])) := by
        rw [← List.append_assoc]
        exact p3.append_right _
      have hw : (L2.wipe σ own)[i]? = some (some (.ref a)) := by rw [wipe_out hi]; exact hσ
      refine ⟨fun j m H' => m = n - j ∧ j ≤ n ∧ InvC ad X.K W σ G2 c2 H Q D own (fun ρ' acc => endC (frzAt ρ own) own (compV (turnC cf ie it iifs) own i n (n - j) ρ' acc)) H', ⟨_, rfl, Nat.zero_le _, ⟨_, G2, c3, [], [], [], sl3, .nil, (n1.perm pm).right, (n2.perm (List.Perm.refl _) pm).less fun z hz => List.mem_append_right _ hz, k3⟩⟩, ?_⟩
      rintro j m H' ⟨rfl, hj, hv⟩
      have hv' := hv
      obtain ⟨ρ', G', c', t, acc, accV, sl', r', hh', st', a'⟩ := hv'
      by_cases hlt : j < n
      · obtain ⟨k, hk⟩ : ∃ k, n - j = k + 1 := ⟨n - j - 1, by omega⟩
        have hjk : n - (k + 1) = j := by omega
        have hk2 : n - (j + 1) = k := by omega
        rw [hk] at a'
        cases ev : vwAt ρ' i n (n - (k + 1)) with
        | none =>
          simp only [compV, ev] at a'
          exact a'.elim
        | some p =>
          rw [stepV ev] at a'
          rw [hjk] at ev
          obtain ⟨vs, v, q1, q2, q3⟩ := view_at sl' hh'.left hw ev
          refine .inr ⟨⟨vs, v, q1, q2⟩, fun H'' => InvC ad X.K W σ G2 c2 H Q D own (fun ρ' acc => endC (frzAt ρ own) own (compV (turnC cf ie it iifs) own i n (n - (j + 1)) ρ' acc)) H'', fun H'' hv2 => ⟨_, by omega, rfl, hlt, hv2⟩, fun x H'' hy => ?_⟩
          obtain ⟨eh, hx⟩ := hy
          subst eh
          have hx2 := hx vs q1
          rw [q2] at hx2
          cases hx2
          rw [hk2]
          exact turn_C hn hsl sl' r' hh' st' a' q3
      · have e : j = n := by omega
        subst e
        rw [Nat.sub_self] at hv a'
        simp only [compV] at a'
        by_cases hl : vwLen ρ' i j = true
        · obtain ⟨vs, q1, q2⟩ := view_len sl' hh'.left hw hl
          refine .inl ⟨⟨vs, q1, by omega⟩, stop_C hn hv (fun ρ' acc => ?_) sl2 fun i hi p e => frzAt_fz hi e⟩
          simp only [compV]
          split
          · exact .inl rfl
          · exact .inr rfl
        · rw [if_neg hl] at a'
          exact a'.elim
theorem AftS.keep {P P' : Pt} {r : Res Fl} {c : List Cell} (hk : ∀ σ', P'.kp σ' → P.kp σ') (h : AftS ad K W P D G c H r) : AftS ad K W P' D G c H r := by
  cases r with
  | ok f ρ =>
    cases f with
    | nx => exact fun σ' H' G' c' kp s2 sl hh => h σ' H' G' c' (hk _ kp) s2 sl hh
    | bk => exact fun σ' H' G' c' kp s2 sl hh => h σ' H' G' c' (hk _ kp) s2 sl hh
    | ct => exact fun σ' H' G' c' kp s2 sl hh => h σ' H' G' c' (hk _ kp) s2 sl hh
    | rt p => exact fun v σ' H' G' c' t kp s2 sl hh => h v σ' H' G' c' t (hk _ kp) s2 sl hh
  | ex x ρ => exact fun d σ' H' G' c' kp s2 sl hh => h d σ' H' G' c' (hk _ kp) s2 sl hh
  | bad => exact h
theorem ss_forv {x : Str} {p0 : Pos} {tg : Expr} {body : List Stmt} {it : IT} {i : Nat} {ib : List IS} (hp : PassesOwn (model X.prog X.w) X.A X.env X.xe) (hc : X.calm = true) (hx : PE X (.Name x p0) (tVar i)) (hg : PG X tg (rdG ad X it)) (hb : ∀ σ0, SB ad X W ⟨i :: P.pr, σ0⟩ body (evB cf ib))
    (hj : ∀ j ∈ it.slots, j ∉ P.pr) (hj2 : i ∉ it.slots) : SS ad X W P (.For tg (.Name x p0) body [] pos) (evS cf (.forv it i ib)) := by
  have hb' : PSs X body (fun D σ H => ∃ σ0, rdS ad X W ⟨i :: P.pr, σ0⟩ (evB cf ib) D σ H) := ⟨fun pins s σ H D I ⟨σ0, q⟩ => (hb σ0).run pins s σ H D I q⟩
  refine (ps_for hp hc (pi_list hx) hg hb' (fun _ => rfl)).imp fun D σ H ⟨ρ, G, c, kp, sl, hh, h⟩ => ?_
  simp only [evS] at h
  cases en : lenAt ρ i with
  | none => rw [en] at h; exact h.elim
  | some n =>
    rw [en] at h
    change AftS ad X.K W P D G c H (forV (turnF cf it ib) i n n ρ) at h
    obtain ⟨a, vs0, hσ, hs0⟩ := len_start sl hh en
    refine ⟨_, hσ, a, rfl, ⟨vs0, hs0⟩, ?_⟩
    have hk : ∀ σ', (Pt.mk (i :: P.pr) σ).kp σ' → P.kp σ' := fun σ' k => ⟨k.len.trans kp.len, fun j hj => (k.at_ j (List.mem_cons_of_mem _ hj)).trans (kp.at_ j hj)⟩
    refine ⟨fun j m σ' H' => m = n - j ∧ j ≤ n ∧ ∃ ρ' G' c', (Pt.mk (i :: P.pr) σ).kp σ' ∧ Slots ad X.K G' ρ' σ' c' ∧ Hold G' c' H' ∧ AftS ad X.K W ⟨i :: P.pr, σ⟩ D G' c' H' (forV (turnF cf it ib) i n (n - j) ρ'), ⟨_, rfl, Nat.zero_le _, ρ, G, c, Keep.refl _ _, sl, hh, h.keep hk⟩, ?_⟩
    rintro j m σ' H' ⟨rfl, hjn, ρ', G', c', kp', sl', hh', a'⟩
    have hw : σ'[i]? = some (some (.ref a)) := by rw [kp'.at_ i List.mem_cons_self]; exact hσ
    by_cases hlt : j < n
    · obtain ⟨k, hk1⟩ : ∃ k, n - j = k + 1 := ⟨n - j - 1, by omega⟩
      have hjk : n - (k + 1) = j := by omega
      have hk2 : n - (j + 1) = k := by omega
      rw [hk1] at a'
      simp only [forV] at a'
      rw [hjk] at a'
      cases ev : vwAt ρ' i n j with
      | none => rw [ev] at a'; exact a'.elim
      | some p =>
        rw [ev] at a'
        obtain ⟨vs, v, q1, q2, q3⟩ := view_at sl' hh' hw ev
        refine .inr ⟨⟨vs, v, q1, q2⟩, fun σ2 H2 => ∃ ρ2 G2 c2, (Pt.mk (i :: P.pr) σ).kp σ2 ∧ Slots ad X.K G2 ρ2 σ2 c2 ∧ Hold G2 c2 H2 ∧ AftS ad X.K W ⟨i :: P.pr, σ⟩ D G2 c2 H2 (forV (turnF cf it ib) i n (n - (j + 1)) ρ2), fun σ2 H2 hv2 => ⟨_, by omega, rfl, hlt, hv2⟩, fun y H'' hy => ?_⟩
        obtain ⟨eh, hx'⟩ := hy
        subst eh
        have hx2 := hx' vs q1
        rw [q2] at hx2
        cases hx2
        cases e1 : asg it p ρ' with
        | none =>
          have e : turnF cf it ib p ρ' = .bad := by unfold turnF; rw [e1]
          dsimp only at a'
          rw [e] at a'; exact a'.elim
        | some ρ2 =>
          have e : turnF cf it ib p ρ' = evB cf ib ρ2 := by unfold turnF; rw [e1]
          dsimp only at a'
          rw [e] at a'
          refine ⟨ρ', G', c', p, ρ2, sl', hh', q3, e1, fun σ2 c2 sl2 ⟨g, pm⟩ to => ⟨σ, ?_⟩⟩
          have hh2 := (hh'.perm pm).right
          have st2 : Step G' c' H'' G' c2 H'' := ((Step.refl (c := c')).perm (List.Perm.refl _) pm).less fun z hz => List.mem_append_right _ hz
          have kp2 : (Pt.mk (i :: P.pr) σ).kp σ2 := kp'.touch to fun l hl z => by
            rcases List.mem_cons.mp z with z | z
            · subst z; exact hj2 hl
            · exact hj l hl z
          exact ⟨ρ2, G', c2, kp2, sl2, hh2, aft_turn (a'.go st2 hh2) fun σ4 H4 G4 c4 ρ4 kp4 s4 sl4 h4 a4 => ⟨ρ4, G4, c4, kp4, sl4, h4, by rw [hk2]; exact a4.go s4 h4⟩⟩
    · have e : j = n := by omega
      subst e
      rw [Nat.sub_self] at a'
      simp only [forV] at a'
      by_cases hl : vwLen ρ' i j = true
      · rw [if_pos hl] at a'
        obtain ⟨vs, q1, q2⟩ := view_len sl' hh' hw hl
        exact .inl ⟨⟨vs, q1, by omega⟩, a'.nx kp' sl' hh'⟩
      · rw [if_neg hl] at a'
        exact a'.elim
end
end Y
end
section
set_option Elab.async false
set_option linter.all false
set_option maxRecDepth 100000
set_option maxHeartbeats 2000000
set_option autoImplicit false
/-! Y10: statements that write: append, extend, an item, several names at once. -/
namespace Y
open PySem L2
variable {ad : Ad} {K : PySem.W.Frag} {G G' G1 G2 H H' H1 H2 : Hp}
theorem RepL.setG : ∀ (i : Nat) {p : List PV} {v : List V} {c : List Cell} {x : PV} {w : V}, RepL ad K G p v c → Rep ad K G x w [] → ∃ g d, RepL ad K G (p.set i x) (v.set i w) d ∧ c.Perm (g ++ d)
  | _, _, _, _, _, _, .nil, _ => ⟨[], [], .nil, List.Perm.refl _⟩
  | 0, _, _, _, _, _, .cons (c := c) (cs := cs) r t, q => ⟨c, cs, by simpa using RepL.cons (c := []) q t, List.Perm.refl _⟩
  | i + 1, _, _, _, _, _, .cons (c := c) (cs := cs) r t, q => by
    obtain ⟨g, d, h, e⟩ := RepL.setG i t q
    refine ⟨g, c ++ d, .cons r h, ?_⟩
    refine (e.append_left c).trans ?_
    rw [← List.append_assoc, ← List.append_assoc]
    exact List.perm_append_comm.append_right d
/-- a list that is held alone in a slot is written -/
theorem write_slot {σ : St} {ρ : Fr} {c : List Cell} {i : Nat} {xs : List PV} (sl : Slots ad K G ρ σ c) (hh : Hold G c H) (e : ρ.at i = some (.lst true xs)) :
    ∃ l vs d, σ[i]? = some (some (.ref l)) ∧ H l = some (.lst vs) ∧ RepL ad K G xs vs d ∧ ∀ ys ws d2 g, RepL ad K G ys ws d2 → d.Perm (g ++ d2) →
      ∃ c2, Slots ad K G (ρ.set i (some (.lst true ys))) σ c2 ∧ Hold G c2 (upd H l (.lst ws)) ∧ Step G c H G c2 (upd H l (.lst ws)) := by
  obtain ⟨v, d, r, e1, e2, e3, e4⟩ := sl.out e
  cases e2 with
  | @lstO l _ vs cs r1 =>
    have hc : c.Perm ((l, HO.lst vs) :: (cs ++ r)) := e4
    have h1 := hh.perm hc
    refine ⟨l, vs, cs, e1, h1.at_ (l, HO.lst vs) List.mem_cons_self, r1, fun ys ws d2 g r2 pm => ?_⟩
    obtain ⟨w1, w2⟩ := h1.write (.lst ws)
    obtain ⟨c2, s2, p2⟩ := e3.tell (i := i) at_set_none (by simpa using at_lt e) e1 (.lstO r2 : Rep ad K G (.lst true ys) (.ref l) ((l, .lst ws) :: d2))
    rw [set_set_none] at s2
    have pm2 : ((l, HO.lst ws) :: (cs ++ r)).Perm (g ++ c2) := by
      refine List.Perm.trans ?_ (p2.symm.append_left g)
      refine List.Perm.trans (List.Perm.cons _ (pm.append_right r)) ?_
      rw [List.append_assoc]
      exact List.perm_middle.symm
    refine ⟨c2, s2, (w1.perm pm2).right, ?_⟩
    have st : Step G c H G ((l, HO.lst ws) :: (cs ++ r)) (upd H l (.lst ws)) := w2.perm hc.symm (List.Perm.refl _)
    exact (st.perm (List.Perm.refl _) pm2).less fun z hz => List.mem_append_right _ hz
section
variable {X : Cx} {W : WX} {P : Pt} {cf : Cf} {pos : Pos} {D : Ends}
/-- the slot's list, as a type -/
theorem isLst_ty {σ : St} {ρ : Fr} {c : List Cell} {i : Nat} (sl : Slots ad K G ρ σ c) (hh : Hold G c H) (e : isLst (ρ.at i) = true) : ∃ v, σ[i]? = some (some v) ∧ tyV K "list" v H := by
  cases e0 : ρ.at i with
  | none => rw [e0] at e; cases e
  | some p =>
    rw [e0] at e
    cases p with
    | lst o xs =>
      obtain ⟨v, d, r, e1, e2, e3, e4⟩ := sl.out e0
      refine ⟨v, e1, ?_⟩
      have vw : Vw ad K G c (.lst o xs) v := ⟨d, e2, fun z hz => e4.symm.mem_iff.mp (List.mem_append_left _ hz)⟩
      obtain ⟨a, vs, d', rfl, h1, _, _⟩ := vw.lst hh
      exact .inl ⟨rfl, vs, .of h1⟩
    | _ => cases e
theorem rd_app {i : Nat} {ie : IE} {σ : St} {H : Hp} (hq : rdS ad X W P (evS cf (.app i ie)) D σ H) : tDrop (tBM X.K "list" rAppend (tVar i) (tCons (rd ad X W (RelP ad X.K) (evE cf ie)) tNil)) D σ H := by
  obtain ⟨ρ, G, c, kp, sl, hh, h⟩ := hq
  simp only [evS] at h
  split at h
  case isFalse => exact h.elim
  rename_i ty
  obtain ⟨v, e1, tv⟩ := isLst_ty sl hh ty
  refine ⟨v, e1, tv, ρ, G, c, sl, hh, AftS.seq kp h fun p ρ1 w H1 G1 c1 t s1 sl1 h1 r1 k1 => ?_⟩
  cases e : ρ1.at i with
  | none => rw [e] at k1; exact k1.elim
  | some q =>
    rw [e] at k1
    cases q with
    | lst o xs =>
      cases o with
      | false => exact k1.elim
      | true =>
        dsimp only at k1
        split at k1
        case isFalse => exact k1.elim
        rename_i hl
        have h1' := h1.absorb
        have k2 := k1.go (s1.absorb h1) h1'
        obtain ⟨l, vs, d, f1, f2, f3, f4⟩ := write_slot (sl1.mono (addc_sub h1.right)) h1' e
        rw [e1] at f1
        cases f1
        obtain ⟨c2, q1, q2, q3⟩ := f4 (xs ++ [p.frz]) (vs ++ [w]) d [] (by simpa using f3.append (RepL.cons (c := []) (cs := []) (Rep.absorb h1 r1) .nil)) (List.Perm.refl _)
        exact ⟨l, vs, w, rfl, rfl, f2, by rw [← f3.length]; exact hl, k2 σ _ _ c2 kp q3 q1 q2⟩
    | _ => exact k1.elim
theorem rd_ext {i : Nat} {ie : IE} {σ : St} {H : Hp} (hq : rdS ad X W P (evS cf (.ext i ie)) D σ H) : tDrop (tBM X.K "list" rExtend (tVar i) (tCons (rd ad X W (RelP ad X.K) (evE cf ie)) tNil)) D σ H := by
  obtain ⟨ρ, G, c, kp, sl, hh, h⟩ := hq
  simp only [evS] at h
  split at h
  case isFalse => exact h.elim
  rename_i ty
  obtain ⟨v, e1, tv⟩ := isLst_ty sl hh ty
  refine ⟨v, e1, tv, ρ, G, c, sl, hh, AftS.seq kp h fun p ρ1 w H1 G1 c1 t s1 sl1 h1 r1 k1 => ?_⟩
  cases e : ρ1.at i with
  | none => rw [e] at k1; exact k1.elim
  | some q =>
    rw [e] at k1
    cases q with
    | lst o xs =>
      cases o with
      | false => exact k1.elim
      | true =>
        have h1' := h1.absorb
        have k2 := k1.go (s1.absorb h1) h1'
        have rp := Rep.absorb h1 r1
        have hfz := PV.frz_fz p
        cases ep : p.frz with
        | lst o ys =>
          rw [ep] at k2 rp hfz
          dsimp only at k2
          split at k2
          case isFalse => exact k2.elim
          rename_i hl
          have ho : o = false := by simpa [PV.fz] using (Bool.and_eq_true_iff.mp (show (!o && PV.fzL ys) = true from hfz)).1
          subst ho
          obtain ⟨b, ws, rfl, g1, g2⟩ : ∃ b ws, w = .ref b ∧ addc G1 t b = some (.lst ws) ∧ RepL ad X.K (addc G1 t) ys ws [] := by
            generalize ez : ([] : List Cell) = z at rp
            cases rp with
            | lstF g3 r3 => subst ez; exact ⟨_, _, rfl, g3, r3⟩
          obtain ⟨l, vs, d, f1, f2, f3, f4⟩ := write_slot (sl1.mono (addc_sub h1.right)) h1' e
          rw [e1] at f1
          cases f1
          obtain ⟨c2, q1, q2, q3⟩ := f4 (xs ++ ys) (vs ++ ws) d [] (by simpa using f3.append g2) (List.Perm.refl _)
          have hb := h1'.fz _ _ g1
          exact ⟨l, b, vs, ws, rfl, rfl, f2, hb, by rw [← f3.length, ← g2.length]; exact hl, k2 σ _ _ c2 kp q3 q1 q2⟩
        | _ => rw [ep] at k2; exact k2.elim
    | _ => exact k1.elim
theorem rd_sub {i : Nat} {ix ie : IE} {σ : St} {H : Hp} (hq : rdS ad X W P (evS cf (.sub i ix ie)) D σ H) : tAsg (rd ad X W (RelP ad X.K) (evE cf ie)) (gSub (tVar i) (rd ad X W (RelO ad X.K) (opnd ix (evE cf ix))) rSetL) D σ H := by
  obtain ⟨ρ, G, c, kp, sl, hh, h⟩ := hq
  simp only [evS] at h
  refine ⟨ρ, G, c, sl, hh, h.seq kp fun p ρ1 w H1 G1 c1 t s1 sl1 h1 r1 k1 => ?_⟩
  have h1' := h1.absorb
  have k1' := k1.go (s1.absorb h1) h1'
  have sl1' := sl1.mono (addc_sub h1.right)
  have rp := Rep.absorb h1 r1
  split at k1'
  case isFalse => exact k1'.elim
  rename_i ty
  obtain ⟨v, e1, tv⟩ := isLst_ty sl1' h1' ty
  · refine ⟨v, e1, ρ1, addc G1 t, c1, sl1', h1', AftS.seq (R := RelO ad X.K) kp k1' fun o ρ2 y H2 G2 c2 t2 s2 sl2 h2 ⟨et, hv⟩ k2 => ?_⟩
    subst et
    have h2' := nilH h2
    have k2' := k2.go0 s2 h2
    cases e : ρ2.at i with
    | none => rw [e] at k2'; exact k2'.elim
    | some q =>
      rw [e] at k2'
      cases q with
      | lst o' xs =>
        cases o' with
        | false => exact k2'.elim
        | true =>
          cases ey : rsv ρ2 o with
          | none => rw [ey] at k2'; exact k2'.elim
          | some pj =>
            rw [ey] at k2'
            cases pj with
            | int k =>
              dsimp only at k2'
              cases ej : L2.ixN xs.length k with
              | none => rw [ej] at k2'; exact k2'.elim
              | some j =>
                rw [ej] at k2'
                obtain rfl := (hv.vw sl2 ey).int
                obtain ⟨l, vs, d, f1, f2, f3, f4⟩ := write_slot sl2 h2' e
                rw [e1] at f1
                cases f1
                obtain ⟨g, d2, r2, pm⟩ := f3.setG j (rp.mono s2.fz)
                obtain ⟨c3, q1, q2, q3⟩ := f4 _ _ d2 g r2 pm
                exact ⟨l, vs, k, j, rfl, rfl, f2, by rw [← f3.length]; exact ej, k2' σ _ _ c3 kp q3 q1 q2⟩
            | _ => exact k2'.elim
      | _ => exact k2'.elim
/-- several slots at once -/
def setL : List Nat → List V → St → St
  | i :: is, v :: vs, σ => setL is vs (σ.set i (some v))
  | _, _, σ => σ
theorem put_all {c : List Cell} : ∀ {is : List Nat} {ps : List PV} {vs : List V} {ρ ρ2 : Fr} {σ : St} {c1 t : List Cell}, (∀ j ∈ is, j ∉ P.pr ∧ Free ad j) → putL is ps ρ = some ρ2 → P.kp σ → Step G c H G1 (c1 ++ t) H1 → Slots ad K G1 ρ σ c1 → Hold G1 (c1 ++ t) H1 → RepL ad K G1 ps vs t →
    ∃ c2, P.kp (setL is vs σ) ∧ Step G c H G1 c2 H1 ∧ Slots ad K G1 ρ2 (setL is vs σ) c2 ∧ Hold G1 c2 H1
  | [], [], _, ρ, ρ2, σ, c1, t, hi, e, kp, s, sl, hh, r => by
    obtain ⟨rfl, rfl⟩ := r.nil'
    cases e
    exact ⟨c1, kp, nilL s, sl, nilH hh⟩
  | [], _ :: _, _, ρ, ρ2, σ, c1, t, hi, e, kp, s, sl, hh, r => by simp [putL] at e
  | _ :: _, [], _, ρ, ρ2, σ, c1, t, hi, e, kp, s, sl, hh, r => by simp [putL] at e
  | i :: is, p :: ps, _, ρ, ρ2, σ, c1, t, hi, e, kp, s, sl, hh, r => by
    cases r with
    | @cons _ _ v vs t1 t2 r1 r2 =>
      simp only [putL] at e
      split at e
      case isFalse => cases e
      rename_i hl
      obtain ⟨d, c2, sl2, pm⟩ := sl.set (hi i List.mem_cons_self).2 hl r1
      have pm' : (c1 ++ (t1 ++ t2)).Perm (d ++ (c2 ++ t2)) := by
        rw [← List.append_assoc, ← List.append_assoc]
        exact (List.perm_append_comm.trans pm).append_right t2
      exact put_all (is := is) (fun k hk => hi k (List.mem_cons_of_mem _ hk)) e (kp.set (hi i List.mem_cons_self).1) ((s.perm (List.Perm.refl _) pm').less fun z hz => List.mem_append_right _ hz) sl2 (hh.perm pm').right r2
theorem putL_len : ∀ {is : List Nat} {ps : List PV} {ρ ρ2 : Fr}, putL is ps ρ = some ρ2 → ps.length = is.length
  | [], [], _, _, _ => rfl
  | [], _ :: _, _, _, h => by simp [putL] at h
  | _ :: _, [], _, _, h => by simp [putL] at h
  | i :: is, p :: ps, ρ, ρ2, h => by
    simp only [putL] at h
    split at h
    · simp [putL_len h]
    · cases h
theorem rd_par {is : List Nat} {ies : List IE} {σ : St} {H : Hp} (hi : ∀ j ∈ is, j ∉ P.pr ∧ Free ad j) (hq : rdS ad X W P (evS cf (.par is ies)) D σ H) : rd ad X W (RelL ad X.K) (evL cf ies) σ H fun vs H1 => vs.length = is.length ∧ D.nx (setL is vs σ) H1 := by
  obtain ⟨ρ, G, c, kp, sl, hh, h⟩ := hq
  simp only [evS] at h
  refine ⟨ρ, G, c, sl, hh, AftS.seq (R := RelL ad X.K) kp h fun ps ρ1 vs H1 G1 c1 t s1 sl1 h1 r1 k1 => ?_⟩
  have r1' : RepL ad X.K G1 ps vs t := r1
  cases e : putL is ps ρ1 with
  | none => rw [e] at k1; exact k1.elim
  | some ρ2 =>
    rw [e] at k1
    obtain ⟨c2, q1, q2, q3, q4⟩ := put_all hi e kp s1 sl1 h1 r1'
    exact ⟨by rw [← r1'.length]; exact putL_len e, k1 _ H1 G1 c2 q1 q2 q3 q4⟩
theorem rd_par2 {i j : Nat} {ies : List IE} {σ : St} {H : Hp} (hi : ∀ k ∈ [i, j], k ∉ P.pr ∧ Free ad k) (hq : rdS ad X W P (evS cf (.par [i, j] ies)) D σ H) : tPar i j (rd ad X W (RelL ad X.K) (evL cf ies)) D σ H :=
  rd_imp (rd_par hi hq) fun vs H1 ⟨hl, h⟩ => by
    match vs, hl with
    | [v, w], _ => exact ⟨v, w, rfl, h⟩
theorem rd_par3 {i j k : Nat} {ies : List IE} {σ : St} {H : Hp} (hi : ∀ l ∈ [i, j, k], l ∉ P.pr ∧ Free ad l) (hq : rdS ad X W P (evS cf (.par [i, j, k] ies)) D σ H) : tPar3 i j k (rd ad X W (RelL ad X.K) (evL cf ies)) D σ H :=
  rd_imp (rd_par hi hq) fun vs H1 ⟨hl, h⟩ => by
    match vs, hl with
    | [u, v, w], _ => exact ⟨u, v, w, rfl, h⟩
end
end Y
end
section
set_option Elab.async false
set_option linter.all false
set_option maxRecDepth 100000
set_option maxHeartbeats 2000000
set_option autoImplicit false
/-! Y10o: fields of an instance that is held alone are stored. -/
namespace Y
open PySem PySem.Spec L2
variable {ad : Ad} {K : PySem.W.Frag} {G G' G1 G2 H H' H1 H2 : Hp}
theorem upd_self {H : Hp} {a : Addr} {o : HO} (h : H a = some o) : upd H a o = H := by
  funext b
  by_cases e : b = a
  · rw [e, upd_same, h]
  · rw [upd_ne e]
theorem putF_new : ∀ {fn : List Str} {vs : List V} {f : Str} {y : V}, fn.Nodup → fn[vs.length]? = some f → putF f y (fn.zip vs) = fn.zip (vs ++ [y])
  | [], vs, f, y, _, h => by simp at h
  | g :: fn, [], f, y, _, h => by
    have e : g = f := by simpa using h
    rw [e]
    simp [putF]
  | g :: fn, v :: vs, f, y, nd, h => by
    have h' : fn[vs.length]? = some f := by simpa using h
    have hne : g ≠ f := fun e => (List.nodup_cons.mp nd).1 (e ▸ List.mem_of_getElem? h')
    rw [List.zip_cons_cons, putF, if_neg hne, putF_new (List.nodup_cons.mp nd).2 h']
    rfl
theorem putF_set : ∀ {fn : List Str} {vs : List V} {j : Nat} {f : Str} {y : V}, fn.Nodup → fn[j]? = some f → j < vs.length → putF f y (fn.zip vs) = fn.zip (vs.set j y)
  | [], vs, j, f, y, _, h, _ => by simp at h
  | g :: fn, [], j, f, y, _, _, h => by simp at h
  | g :: fn, v :: vs, 0, f, y, nd, h, _ => by
    have e : g = f := by simpa using h
    rw [e]
    simp [putF]
  | g :: fn, v :: vs, j + 1, f, y, nd, h, hl => by
    have h' : fn[j]? = some f := by simpa using h
    have hne : g ≠ f := fun e => (List.nodup_cons.mp nd).1 (e ▸ List.mem_of_getElem? h')
    rw [List.zip_cons_cons, putF, if_neg hne, putF_set (List.nodup_cons.mp nd).2 h' (by simpa using hl)]
    rfl
theorem slotV_new {ps : List Nat} {vs : List V} {i : Nat} {y : V} (h : ps[vs.length]? = some i) : slotV ps (vs ++ [y]) = SlX.putS i y (slotV ps vs) := by
  have key : ∀ (ps : List Nat) (vs : List V), ps[vs.length]? = some i → ps.zip (vs ++ [y]) = ps.zip vs ++ [(i, y)] := by
    intro ps
    induction ps with
    | nil => intro vs h; simp at h
    | cons p ps ih =>
      intro vs h
      cases vs with
      | nil =>
        have e : p = i := by simpa using h
        rw [e]
        simp
      | cons v vs =>
        have h' : ps[vs.length]? = some i := by simpa using h
        rw [List.cons_append, List.zip_cons_cons, List.zip_cons_cons, ih vs h']
        rfl
  unfold slotV
  rw [key ps vs h, List.foldl_append]
  rfl
/-- an instance that is held alone in a slot is written -/
theorem write_obj {σ : St} {ρ : Fr} {c : List Cell} {i : Nat} {k : CK} {xs : List PV} (sl : Slots ad K G ρ σ c) (hh : Hold G c H) (e : ρ.at i = some (.obj true k xs)) :
    ∃ a dx vs d, σ[i]? = some (some (.ref a)) ∧ CkOk ad.nm K k ∧ dx ≠ a ∧ xs.length ≤ k.fn.length ∧ H a = some (objH (ad.nm.fn k.cls) a dx k vs) ∧ H dx = some (dicH a k vs) ∧ RepL ad K G xs vs d ∧
      ∀ ys ws d2 g, RepL ad K G ys ws d2 → d.Perm (g ++ d2) → ys.length ≤ k.fn.length →
        ∃ c2, Slots ad K G (ρ.set i (some (.obj true k ys))) σ c2 ∧ Hold G c2 (upd (upd H dx (dicH a k ws)) a (objH (ad.nm.fn k.cls) a dx k ws)) ∧ Step G c H G c2 (upd (upd H dx (dicH a k ws)) a (objH (ad.nm.fn k.cls) a dx k ws)) := by
  obtain ⟨v, d, r, e1, e2, e3, e4⟩ := sl.out e
  cases e2 with
  | @objO a dx _ _ vs cs ck ne le r1 =>
    have hc : c.Perm (((dx, dicH a k vs) : Cell) :: ((a, objH (ad.nm.fn k.cls) a dx k vs) :: (cs ++ r))) := e4.trans (List.Perm.swap _ _ _)
    have h1 := hh.perm hc
    have h0 := hh.perm e4
    refine ⟨a, dx, vs, cs, e1, ck, ne, le, h0.at_ (a, _) List.mem_cons_self, h1.at_ (dx, _) List.mem_cons_self, r1, fun ys ws d2 g r2 pm hl => ?_⟩
    obtain ⟨w1, w2⟩ := h1.write (dicH a k ws)
    have p1 : (((dx, dicH a k ws) : Cell) :: ((a, objH (ad.nm.fn k.cls) a dx k vs) :: (cs ++ r))).Perm (((a, objH (ad.nm.fn k.cls) a dx k vs) : Cell) :: ((dx, dicH a k ws) :: (cs ++ r))) := List.Perm.swap _ _ _
    obtain ⟨w3, w4⟩ := (w1.perm p1).write (objH (ad.nm.fn k.cls) a dx k ws)
    obtain ⟨c2, s2, p2⟩ := e3.tell (i := i) at_set_none (by simpa using at_lt e) e1 (.objO ck ne hl r2 : Rep ad K G (.obj true k ys) (.ref a) ((a, objH (ad.nm.fn k.cls) a dx k ws) :: (dx, dicH a k ws) :: d2))
    rw [set_set_none] at s2
    have pm2 : (((a, objH (ad.nm.fn k.cls) a dx k ws) : Cell) :: ((dx, dicH a k ws) :: (cs ++ r))).Perm (g ++ c2) := by
      refine List.Perm.trans ?_ (p2.symm.append_left g)
      refine List.Perm.trans (List.Perm.cons _ (List.Perm.cons _ (pm.append_right r))) ?_
      rw [List.append_assoc]
      exact (List.Perm.cons _ List.perm_middle.symm).trans List.perm_middle.symm
    refine ⟨c2, s2, (w3.perm pm2).right, ?_⟩
    have st : Step G c H G (((a, objH (ad.nm.fn k.cls) a dx k ws) : Cell) :: ((dx, dicH a k ws) :: (cs ++ r))) _ := (w2.perm hc.symm p1).trans w4 (w1.perm p1)
    exact (st.perm (List.Perm.refl _) pm2).less fun z hz => List.mem_append_right _ hz
section
variable {X : Cx} {W : WX} {P : Pt} {cf : Cf} {pos pos' xp : Pos} {D : Ends}
/-- slot[i].f = e -/
theorem ss_fst {i : Nat} {x f : Str} {v : Expr} {ie : IE} (hv : SE ad X W v (evE cf ie)) (ho : PE X (.Name x xp) (tVar i)) (hs : swapsWith v (some (.Attribute (.Name x xp) f pos')) pos.line X.env = pure false) : SS ad X W P (.Assign [.Attribute (.Name x xp) f pos'] v pos) (evS cf (.fst i f ie)) := by
  refine ⟨fun pins s σ H D I ⟨ρ, G, c, kp, sl, hh, h⟩ => ?_⟩
  simp only [evS] at h
  refine plainObj_wpAny_Assign_Attribute (thn (hv.run pins s σ H (fun y H1 => ∃ (G1 : Hp) (c1 : List Cell) (ρ1 : Fr) (kk : CK) (fs : List PV) (p : PV) (fs' : List PV) (j : Nat), Slots ad X.K G1 ρ1 σ c1 ∧ Hold G1 c1 H1 ∧ Rep ad X.K G1 p y [] ∧ ρ1.at i = some (.obj true kk fs) ∧ kk.fn[j]? = some f ∧
      ((j = fs.length ∧ fs' = fs ++ [p]) ∨ (j < fs.length ∧ kk.sl = none ∧ fs' = fs.set j p)) ∧ AftS ad X.K W P D G1 c1 H1 (.ok .nx (ρ1.set i (some (.obj true kk fs'))))) I ⟨ρ, G, c, sl, hh, h.seq kp fun p ρ1 y H1 G1 c1 t s1 sl1 h1 r1 k1 => ?_⟩) fun u s1 ⟨y, H1, I1, ry, G1, c1, ρ1, kk, fs, p, fs', j, sl1, h1, rp, ea, ej, ec, k1⟩ => ?_) hs
  · have k1' := k1.go (s1.absorb h1) h1.absorb
    cases e : ρ1.at i with
    | none => rw [e] at k1'; exact k1'.elim
    | some q =>
      rw [e] at k1'
      cases q <;> first
        | exact k1'.elim
        | skip
      rename_i o kk fs
      cases o with
      | false => exact k1'.elim
      | true =>
        dsimp only at k1'
        cases ei : kk.fn.idxOf? f with
        | none => rw [ei] at k1'; exact k1'.elim
        | some j =>
          rw [ei] at k1'
          dsimp only at k1'
          split at k1'
          · rename_i hj
            exact ⟨addc G1 t, c1, ρ1, kk, fs, p.frz, _, j, sl1.mono (addc_sub h1.right), h1.absorb, Rep.absorb h1 r1, e, idx_get ei, .inl ⟨hj, rfl⟩, k1'⟩
          · split at k1'
            · rename_i hj
              exact ⟨addc G1 t, c1, ρ1, kk, fs, p.frz, _, j, sl1.mono (addc_sub h1.right), h1.absorb, Rep.absorb h1 r1, e, idx_get ei, .inr ⟨hj.1, hj.2, rfl⟩, k1'⟩
            · exact k1'.elim
  · obtain ⟨a, dx, vs, d, f1, ck, ne, le, f2, f3, f4, f5⟩ := write_obj sl1 h1 ea
    refine thn (ho.run pins s1 σ H1 (fun w H2 => w = .ref a ∧ H2 = H1) I1 ⟨_, f1, rfl, rfl⟩) fun ov s2 ⟨w, H2, I2, r2, e1, e2⟩ => ?_
    subst e1 e2
    cases (show ov = Value.ref a from r2)
    have hj := (List.getElem?_eq_some_iff.mp ej).1
    have hlen := f4.length
    have sh := ck.shape
    have hfn := ck.sz
    rcases ec with ⟨ej2, ef⟩ | ⟨ej2, esl, ef⟩
    · subst ej2
      have hrep : RepL ad X.K G1 fs' (vs ++ [y]) d := by
        rw [ef]
        simpa using f4.append (RepL.cons (c := []) (cs := []) rp .nil)
      obtain ⟨c2, q1, q2, q3⟩ := f5 fs' (vs ++ [y]) d [] hrep (List.Perm.refl _) (by rw [ef, List.length_append, List.length_singleton]; omega)
      cases h : kk.sl with
      | none =>
        rw [h] at sh
        rw [objH_dict h] at f2
        refine setattr_ok I2 f2 sh.1 (sh.2 f (List.mem_of_getElem? ej)) (by rw [List.length_zip]; omega) ry fun s3 I3 => ⟨σ, _, I3, ?_⟩
        rw [putF_new ck.nd (by rw [← hlen]; exact ej)]
        rw [dicH_dict h] at f3 q2 q3
        rw [objH_dict h, upd_self f3] at q2 q3
        exact k1 σ _ _ c2 kp q3 q1 q2
      | some pl =>
        rw [h] at sh
        obtain ⟨cc, hl, nd, hp⟩ := sh
        have h3 : pl[vs.length]? = some (pl[vs.length]'(by omega)) := List.getElem?_eq_getElem _
        obtain ⟨pp, sp⟩ := hp _ f _ ej (by rw [hlen]; exact h3)
        have hs : SlX.Slt H2 a (ad.nm.fn kk.cls) dx (slotV pl vs) := by
          unfold objH at f2
          unfold dicH at f3
          rw [h] at f2 f3
          cases vs with
          | nil => exact .inl ⟨f2, by unfold slotV; cases pl <;> rfl⟩
          | cons v vs => exact .inr ⟨f2, f3⟩
        refine SlX.setslot_ok I2 hs cc sp ry fun s3 I3 => ⟨σ, _, I3, ?_⟩
        rw [← slotV_new h3]
        have e3 : objH (ad.nm.fn kk.cls) a dx kk (vs ++ [y]) = SlX.SlO a (ad.nm.fn kk.cls) dx (slotV pl (vs ++ [y])) := by
          unfold objH
          rw [h]
          cases vs <;> rfl
        have e4 : dicH a kk (vs ++ [y]) = .xd [] := by
          unfold dicH
          rw [h]
          cases vs <;> rfl
        rw [e3, e4] at q2 q3
        exact k1 σ _ _ c2 kp q3 q1 q2
    · obtain ⟨g, d2, hrep, pm⟩ := RepL.setG j f4 rp
      have hl2 : (fs.set j p).length = fs.length := List.length_set
      obtain ⟨c2, q1, q2, q3⟩ := f5 fs' (vs.set j y) d2 g (by rw [ef]; exact hrep) pm (by rw [ef, hl2]; exact le)
      rw [esl] at sh
      rw [objH_dict esl] at f2
      refine setattr_ok I2 f2 sh.1 (sh.2 f (List.mem_of_getElem? ej)) (by rw [List.length_zip]; omega) ry fun s3 I3 => ⟨σ, _, I3, ?_⟩
      rw [putF_set ck.nd ej (by omega)]
      rw [dicH_dict esl] at f3 q2 q3
      rw [objH_dict esl, upd_self f3] at q2 q3
      exact k1 σ _ _ c2 kp q3 q1 q2
end
end Y
end
section
set_option Elab.async false
set_option linter.all false
set_option maxRecDepth 100000
set_option maxHeartbeats 2000000
set_option autoImplicit false
/-! EX1: own exception classes over a built-in one, whose __init__ says super().__init__('..') and then stores its parameters under their names. -/
namespace EX
open PySem PySem.W PySem.Calls PyProof.Rows
/-! ### the text of __init__ -/
def exStore (f : Str) : Stmt → Bool
  | .Assign [.Attribute (.Name sf _) g _] (.Name x _) _ => decide (sf = ("self" : Str)) && decide (g = f) && decide (x = f)
  | _ => false
def exStores : List Str → List Stmt → Bool
  | [], [] => true
  | f :: fs, s :: ss => exStore f s && exStores fs ss
  | _, _ => false
def exBody (fs : List Str) : List Stmt → Bool
  | .Expr (.Call (.Attribute (.Call (.Name su _) [] [] _) ini ap) [.Constant (.str _) _ _] [] cp) _ :: r => decide (su = ("super" : Str)) && decide (ini = ("__init__" : Str)) && (ap.endLine == cp.line) && exStores fs r
  | _ => false
theorem exStore_ok {f : Str} {s : Stmt} (h : exStore f s = true) : ∃ p1 p2 p3 p4, s = .Assign [.Attribute (.Name "self" p1) f p2] (.Name f p3) p4 := by
  unfold exStore at h
  split at h
  · simp only [Bool.and_eq_true, decide_eq_true_eq] at h
    obtain ⟨⟨rfl, rfl⟩, rfl⟩ := h
    exact ⟨_, _, _, _, rfl⟩
  · cases h
theorem exBody_ok {fs : List Str} {b : List Stmt} (h : exBody fs b = true) : ∃ p0 p1 p2 z k p3 p4 p5 r, b = .Expr (.Call (.Attribute (.Call (.Name "super" p0) [] [] p1) "__init__" p2) [.Constant (.str z) k p3] [] p4) p5 :: r ∧ (p2.endLine == p4.line) = true ∧ exStores fs r = true := by
  unfold exBody at h
  split at h
  · simp only [Bool.and_eq_true, decide_eq_true_eq] at h
    obtain ⟨⟨⟨rfl, rfl⟩, hl⟩, h⟩ := h
    exact ⟨_, _, _, _, _, _, _, _, _, rfl, hl, h⟩
  · cases h
theorem method_eq {o : Expr} {name : Str} {apos pos p3 : Pos} {env : Env} {z : Str} {k : Nat} (hl : (apos.endLine == pos.line) = true) : eval (.Call (.Attribute o name apos) [.Constant (.str z) k p3] [] pos) env = (do
      let ov ← attributeBase o name env (eval o env)
      standAt apos.atName
      let (f, first) ← holding [ov] (getMethod ov name (do return (← importBound o env).getD true))
      callWith pos f first (backTo pos (starEach [.Constant (.str z) k p3] env)) []) := by
  have h1 : methodCallPos true o env apos pos = pure pos := by
    unfold methodCallPos
    rw [hl]
    rfl
  show (do
      let ov ← attributeBase o name env (eval o env)
      standAt apos.atName
      methodCall o name apos pos env ov 1 (backTo pos (starEach [.Constant (.str z) k p3] env)) []) = _
  have h2 : ∀ ov, methodCall o name apos pos env ov 1 (backTo pos (starEach [.Constant (.str z) k p3] env)) [] = (do
      let (f, first) ← holding [ov] (getMethod ov name (do return (← importBound o env).getD true))
      callWith pos f first (backTo pos (starEach [.Constant (.str z) k p3] env)) []) := fun ov => by
    show (do
      let (f, first) ← holding [ov] (getMethod ov name (do return (← importBound o env).getD true))
      let callPos ← methodCallPos true o env apos pos
      callWith callPos f first (backTo pos (starEach [.Constant (.str z) k p3] env)) []) = _
    rw [h1]
    rfl
  simp only [h2]
/-- the fields stored so far of the exception at x -/
def Fld (h0 : Heap) (x C : Addr) (done : List (Str × Value)) (h : Heap) : Prop :=
  (done = [] ∧ ∃ t1, h.get? x = some (excObj C t1 none .none)) ∨ (∃ dx t1, h0.objs.size ≤ dx ∧ dx ≠ x ∧ h.get? x = some (excObj C t1 (some dx) .none) ∧ h.Ns1 dx (fun y => done.lookup y))
theorem lookup_cons_if (f y : Str) (v : Value) (l : List (Str × Value)) : ((f, v) :: l).lookup y = if y = f then some v else l.lookup y := by
  by_cases h : y = f
  · subst h; simp [List.lookup]
  · have e : (y == f) = false := by simpa using h
    simp [List.lookup, e, h]
theorem within_lookup : ∀ (l : List (Str × Value)), Within (fun y => l.lookup y) (l.map (·.1)) := fun l y hy => by
  induction l with
  | nil => exact absurd rfl hy
  | cons p l ih =>
    obtain ⟨f, v⟩ := p
    by_cases e : y = f
    · rw [e]; exact List.mem_cons_self
    · refine List.mem_cons_of_mem _ (ih fun z => hy ?_)
      show ((f, v) :: l).lookup y = none
      rw [lookup_cons_if, if_neg e]
      exact z
/-- what the written part says of the class -/
structure ExK (K : Frag) (C : Addr) (B i newId : String) (bmB : List Value) : Prop where
  FB : ExcBaseFacts B newId i bmB
  SF : StoreFacts B bmB "object.__setattr__" "object"
  KF : KxsFacts B i
  ini : excInitIn K C bmB newId = true
  over : excOver K C bmB = true
  sup : ks_superIn K C C "__init__" = some (some (.builtin i))
  sa : findIn K (.ref C) "__setattr__" = some (some (.builtin "object.__setattr__"))
  hd : hasDictIn K C = true
  subB : subIn K (.ref C) (.type B) = some true
section
variable {prog : Program} {w : World} {A : Around} {E : Value → Shared → Prop} {K : Frag} {C x : Addr} {B i newId : String} {bmB : List Value} {h0 : Heap} {done : List (Str × Value)} {s : Shared}
/-- self.f = v -/
theorem fld_set (T : ExK K C B i newId bmB) {f : Str} {v : Value} {Q : Unit → Shared → Prop} (X : K.In s.heap) (ht : takerIn K C f = some none) (hl : done.length ≤ 900) (hF : Fld h0 x C done s.heap) (hz : h0.objs.size ≤ s.heap.objs.size)
    (hq : ∀ h' tk, (∀ b o, b ≠ x → b < h0.objs.size → s.heap.get? b = some o → h'.get? b = some o) → h0.objs.size ≤ h'.objs.size → Fld h0 x C ((f, v) :: done) h' → Q () { s with heap := h', toks := tk }) :
    wpAny (model prog w) A (setAttr (.ref x) f v) Q E s := by
  obtain ⟨cd, hc, hd'⟩ := any_some T.hd
  rcases hF with ⟨rfl, t1, hx⟩ | ⟨dx, t1, hdx, hne, hx, hns⟩
  · refine set_plain X (ox := excObj C t1 none .none) (od := none) ⟨hx, rfl, rfl, trivial⟩ T.sa ?_
    have hxs : x < s.heap.objs.size := Heap.lt_size hx
    obtain ⟨hp, g, d, tk, os⟩ := s
    refine osa_openX (od := none) T.SF (s := ⟨hp, g, d, tk + 1, os⟩) X ⟨hx, rfl, rfl, trivial⟩ T.over ht fun b => ?_
    refine wpAny_bind (wpAny_pure (wpAny_bind (instanceDict_exc hx (looks_clsIn X hc) hd' ?_)))
    have hxs' : x ≠ hp.objs.size := Nat.ne_of_lt hxs
    refine HandSPX.store_in_new (dx := hp.objs.size) ?_ fun h' tk' hn' hs => ?_
    · exact ⟨_, #[], _, (Heap.get?_update_ne _ _ _ _ (Ne.symm hxs')).trans (Heap.get?_push_at rfl rfl), rfl, fun e he => absurd he (by simp), fun _ => rfl⟩
    · have hx2 : (hp.push (dictOf [] 0)).get? x = some (excObj C t1 none .none) := Heap.get?_push_of_some _ hx
      refine hq h' _ (fun b o hb hlt e => ?_) ?_ (.inr ⟨hp.objs.size, t1, hz, Ne.symm hxs', ?_, ?_⟩)
      · exact (hs.2 b (Nat.ne_of_lt (Heap.lt_size e))).trans ((Heap.get?_update_ne _ _ _ _ hb).trans (Heap.get?_push_of_some _ e))
      · obtain ⟨oD, _, _, e1, _⟩ := hn'
        exact Nat.le_trans hz (Nat.le_of_lt (Heap.lt_size e1))
      · exact (hs.2 x hxs').trans (Heap.get?_update_self _ hx2 rfl)
      · have : (fun y => if y = f then some v else none) = fun y => ([(f, v)] : List (Str × Value)).lookup y := by
          funext y
          rw [lookup_cons_if]
          rfl
        rwa [this] at hn'
  · obtain ⟨oD, esD, epD, hoD, hdD, _⟩ := hns.count (within_lookup done)
    refine set_plain X (ox := excObj C t1 (some dx) .none) (od := some oD) ⟨hx, rfl, rfl, hoD⟩ T.sa ?_
    obtain ⟨hp, g, d, tk, os⟩ := s
    refine osa_openX (od := some oD) T.SF (s := ⟨hp, g, d, tk + 1, os⟩) X ⟨hx, rfl, rfl, hoD⟩ T.over ht fun b => ?_
    refine wpAny_bind (wpAny_pure (wpAny_bind (wpAny_bind (wpAny_loadPart hx (wpAny_bind (Looks.at (looks_clsIn X hc) ?_))))))
    rw [hd']
    refine wpAny_pure (a := some dx) ?_
    refine PySem.OEX.store_in_old hns (within_lookup done) (by rw [List.length_map]; omega) fun h' tk' hn' hs => ?_
    refine hq h' _ (fun b o hb hlt e => ?_) ?_ (.inr ⟨dx, t1, hdx, hne, ?_, ?_⟩)
    · exact (hs.2 b (Nat.ne_of_lt (Nat.lt_of_lt_of_le hlt hdx))).trans e
    · obtain ⟨oD, _, _, e1, _⟩ := hn'
      exact Nat.le_trans hdx (Nat.le_of_lt (Heap.lt_size e1))
    · exact (hs.2 x (Ne.symm hne)).trans hx
    · have : (fun y => if y = f then some v else done.lookup y) = fun y => ((f, v) :: done).lookup y := by
        funext y
        rw [lookup_cons_if]
      rwa [this] at hn'
end
section
variable {prog : Program} {w : World} {A : Around} {E : Value → Shared → Prop} {K : Frag} {C x : Addr} {B i newId : String} {bmB : List Value} {h0 : Heap} {env : Env} {m : Str → Option Value}
theorem ld_here {s : Shared} {y : Str} {pos : Pos} {v : Value} {Q : Value → Shared → Prop} (hk : env.scope.kind = .function) (hl : env.kindOf y = some .local) (hn : s.heap.Ns env.locals m) (hv : m y = some v) (hd : (y == ("__debug__" : Str)) = false) (h : Q v s) :
    wpAny (model prog w) A (eval (.Name y pos) env) Q E s := wpAny_Name (wpAny_loadName_local hk hl hn hv h) hd
theorem stores_ok (T : ExK K C B i newId bmB) (hk : env.scope.kind = .function) (hself : env.kindOf "self" = some .local) (hms : m "self" = some (.ref x)) (hnL : h0.Ns env.locals m) (hLx : env.locals ≠ x) (X : K.In h0) (hKx : K.lookup x = none) {Q : Flow → Shared → Prop} (val : Str → Value) :
    ∀ (fs : List Str) (ss : List Stmt) (done : List (Str × Value)) (s : Shared), exStores fs ss = true → (∀ f ∈ fs, env.kindOf f = some .local ∧ takerIn K C f = some none ∧ (f == ("__debug__" : Str)) = false ∧ m f = some (val f)) →
      (∀ b o, b ≠ x → h0.get? b = some o → s.heap.get? b = some o) → h0.objs.size ≤ s.heap.objs.size → Fld h0 x C done s.heap → done.length + fs.length ≤ 900 →
      (∀ h' tk, (∀ b o, b ≠ x → h0.get? b = some o → h'.get? b = some o) → h0.objs.size ≤ h'.objs.size → Fld h0 x C ((fs.map fun f => (f, val f)).reverse ++ done) h' → Q .next { s with heap := h', toks := tk }) →
      wpAny (model prog w) A (execs ss env) Q E s
  | [], [], done, s, _, _, k, hz, hF, _, hq => wpAny_execs_nil (hq s.heap s.toks k hz hF)
  | [], _ :: _, _, _, h, _, _, _, _, _, _ => by cases h
  | _ :: _, [], _, _, h, _, _, _, _, _, _ => by cases h
  | f :: fs, st :: ss, done, s, h, hf, k, hz, hF, hl, hq => by
    simp only [exStores, Bool.and_eq_true] at h
    obtain ⟨p1, p2, p3, p4, rfl⟩ := exStore_ok h.1
    obtain ⟨h1, h2, h3, h4⟩ := hf f List.mem_cons_self
    have hn : s.heap.Ns env.locals m := hnL.at fun o e => k _ o hLx e
    have XS : K.In s.heap := fun a o e => k a o (fun z => by rw [z, hKx] at e; cases e) (X a o e)
    simp only [List.length_cons] at hl
    refine wpAny_execs_cons (plainObj_wpAny_Assign_Attribute ?_)
    refine ld_here hk h1 hn h4 h3 (ld_here hk hself hn hms (by decide) ?_)
    refine fld_set T XS h2 (by omega) hF hz fun h' tk k' hz' hF' => ?_
    refine stores_ok T hk hself hms hnL hLx X hKx val fs ss ((f, val f) :: done) { s with heap := h', toks := tk } h.2 (fun g hg => hf g (List.mem_cons_of_mem _ hg)) (fun b o hb e => k' b o hb (Heap.lt_size e) (k b o hb e)) hz' hF' (by simp only [List.length_cons]; omega)
      fun h'' tk' k'' hz'' hF'' => hq h'' tk' k'' hz'' ?_
    rw [List.map_cons, List.reverse_cons, List.append_assoc]
    exact hF''
end
theorem drop_first (C : Addr) (l : List Value) : ((Value.ref C :: l).dropWhile (· != .ref C)).drop 1 = l := by
  simp [List.dropWhile_cons]
/-- what the written part says of __init__: fd, at fI -/
structure ExF (prog : Program) (K : Frag) (mg : Str → Option Value) (C fI cc cda : Addr) (fd : FuncData) (fs : List Str) (body : List Stmt) (scope : Scope) : Prop where
  lk : ∃ oc od osl, K.lookup fI = some ⟨oc, od, .func fd, osl⟩
  eq : ∃ qual params dV kV doc pm an ct ar, fd = ksFn "__init__" qual params body scope dV kV doc pm an (.ref cda) ct cc ∧ codeIn K (.ref cda) qual = true ∧ (params.posonlyargs ++ params.args).head? = some ar ∧ ar.arg = ("self" : Str)
  code : ∃ ccl cdd vs ccs file tf, K.lookup cda = some ⟨ccl, cdd, .fields vs, ccs⟩ ∧ vs[2]? = some (.str file tf) ∧ ((prog.main.file : Str) == file) = true
  cell : ∃ cl cld csl, K.lookup cc = some ⟨cl, cld, .cell (some (.ref C)), csl⟩
  top : (prog.main.scope.names.lookup ("super" : Str)).isSome = false
  bdy : exBody fs body = true
  kind : scope.kind = .function
  co : scope.isCoroutine = false
  gen : scope.isGenerator = false
  nocell : ∀ x ∈ scope.names, x.2 ≠ .cell
  nsup : scope.names.lookup ("super" : Str) = some .globalImplicit
  ncls : scope.names.lookup ("__class__" : Str) = some .free
  nself : scope.names.lookup ("self" : Str) = some .local
  nfs : ∀ f ∈ fs, scope.names.lookup f = some .local ∧ takerIn K C f = some none ∧ (f == ("__debug__" : Str)) = false
  nd : ("self" :: fs : List Str).Nodup
  few : fs.length ≤ 800
  opq : nsIn K cStatics "thirdparty.any" = some none
  mgs : mg "super" = none
  msub : mroIn K C (.ref C) = some true
theorem lookup_none_of : ∀ {bs : List (Str × Value)} {y : Str}, y ∉ bs.map (·.1) → bs.lookup y = none
  | [], y, _ => rfl
  | (f, v) :: bs, y, h => by
    rw [lookup_cons_if, if_neg fun e => h (by rw [e]; exact List.mem_cons_self)]
    exact lookup_none_of fun z => h (List.mem_cons_of_mem _ z)
theorem lookup_nodup : ∀ {bs : List (Str × Value)} {p : Str × Value}, (bs.map (·.1)).Nodup → p ∈ bs → bs.lookup p.1 = some p.2
  | (f, v) :: bs, p, nd, h => by
    rw [lookup_cons_if]
    rw [List.map_cons, List.nodup_cons] at nd
    rcases List.mem_cons.mp h with rfl | h
    · rw [if_pos rfl]
    · rw [if_neg fun e => nd.1 (List.mem_map.mpr ⟨p, h, e⟩)]
      exact lookup_nodup nd.2 h
theorem map_val : ∀ {bs : List (Str × Value)}, (bs.map (·.1)).Nodup → ((bs.map (·.1)).map fun f => (f, (bs.lookup f).getD .none)) = bs := fun {bs} nd => by
  rw [List.map_map]
  have : ∀ p ∈ bs, ((fun f => (f, (bs.lookup f).getD .none)) ∘ (·.1)) p = p := fun p hp => by
    show (p.1, (bs.lookup p.1).getD .none) = p
    rw [lookup_nodup nd hp]
    rfl
  rw [List.map_congr_left this, List.map_id']
theorem lookup_rev {bs : List (Str × Value)} (nd : (bs.map (·.1)).Nodup) : (fun y => bs.reverse.lookup y) = fun y => bs.lookup y := by
  funext y
  by_cases h : y ∈ bs.map (·.1)
  · obtain ⟨p, hp, rfl⟩ := List.mem_map.mp h
    rw [lookup_nodup nd hp, lookup_nodup (by rw [List.map_reverse]; exact (List.reverse_perm _).nodup_iff.mpr nd) (List.mem_reverse.mpr hp)]
  · rw [lookup_none_of h, lookup_none_of (by rw [List.map_reverse]; exact fun z => h (List.mem_reverse.mp z))]
section
variable {prog : Program} {w : World} {A : Around} {E : Value → Shared → Prop} {K : Frag} {mg : Str → Option Value} {C x fI cc cda : Addr} {B i newId : String} {bmB : List Value} {fd : FuncData} {fs : List Str} {body : List Stmt} {scope : Scope} {R : Result → Shared → Prop} {s : Shared}
/-- super().__init__('..') called: the args are laid anew -/
theorem mw_call {u t : Addr} {rest : List Value} {Q : Value → Shared → Prop} (T : ExK K C B i newId bmB) (X : K.In s.heap) (hu : s.heap.get? u = some (kxs_mw i x)) (hx : s.heap.get? x = some (excObj C t none .none)) (hz : rest.length ≤ sizeLine)
    (h : ∀ h' t', (∀ b o, b ≠ x → s.heap.get? b = some o → h'.get? b = some o) → s.heap.objs.size ≤ h'.objs.size → h'.get? x = some (excObj C t' none .none) → Q .none { s with heap := h' }) :
    wpAny (model prog w) A (call (.ref u) rest) Q E s := by
  obtain ⟨nm, N', qn, bs, bm, hdct, sn, sub, ab, col, dd, k0, k1, k2, k3, k5, hC, hT⟩ := excInit_of X T.ini
  obtain ⟨hh, g, d, tk, os⟩ := s
  refine wpAny_call (codeAny_of_tree ?_)
  show wpAny _ A.in1 (callAny (.ref u) ⟨rest, []⟩) _ _ _
  simp only [callAny]
  refine wpAny_bind (wpAny_load hu ?_)
  simp only [kxs_mw, show (Value.type "method-wrapper" == Value.type "method" || Value.type "method-wrapper" == Value.type "builtin_function_or_method" || Value.type "method-wrapper" == Value.type "method-wrapper") = true by decide, if_true]
  refine KFB.if_so (by decide) ?_
  refine wpAny_bind (check_bound_init T.FB.toExcCallFacts hC hx rfl ?_)
  refine wpAny_bind (wpAny_pure (wpAny_pure ?_))
  refine ⟨plainId_quiet T.FB.init.plain _, codeAny_builtin T.FB.initEntry ?_⟩
  refine exc_init_tree (cls := .ref C) (t0 := t) (dv := none) (c2 := .none) (c3 := .none) (b4 := .bool false) hx hz fun h' k e ht => ?_
  exact h h' _ k (Nat.le_of_lt (Heap.lt_size ht)) e
theorem init_run {args : Args} {bs : List (Str × Value)} {t0 : Addr} (T : ExK K C B i newId bmB) (G : ExF prog K mg C fI cc cda fd fs body scope) (X : K.In s.heap) (hlim : s.heap.NoLimit) (hg : s.heap.Ns mainGlobals mg)
    (hb : ∃ mb, s.heap.Ns builtinsNs mb ∧ ∀ x : Str, x ≠ "__name__" → mb x = bootBuiltins x) (hx : s.heap.get? x = some (excObj C t0 none .none)) (hKx : K.lookup x = none) (hroom : A.depth < recursionLimit) (hbs : bs.map (·.1) = fs)
    (hbind : BindsTo s fd args ((("self" : Str), .ref x) :: bs))
    (hq : ∀ h' tk dx t1, (∀ b o, b ≠ x → s.heap.get? b = some o → h'.get? b = some o) → (bs ≠ [] → s.heap.objs.size ≤ dx ∧ dx ≠ x ∧ h'.get? x = some (excObj C t1 (some dx) .none) ∧ h'.Ns1 dx (fun y => bs.lookup y)) → R (.ok (.ret .none)) { s with heap := h', toks := tk }) :
    codeAny (model prog w) A (.call (.ref fI) args) R s := by
  obtain ⟨oc, od, osl, hfn⟩ := G.lk
  obtain ⟨qual, params, dV, kV, doc, pm, an, ct, ar, rfl, hcd, hhead, har⟩ := G.eq
  obtain ⟨ccl, cdd, vs, ccs, file, tf, hcode, hvs, hfile⟩ := G.code
  obtain ⟨cl, cld, csl, hcell⟩ := G.cell
  obtain ⟨mb, hb1, hb2⟩ := hb
  obtain ⟨p0, p1, p2, z, k, p3, p4, p5, rest, rfl, hline, hst⟩ := exBody_ok G.bdy
  have hcC : ∃ cd, clsIn K C = some cd := by
    obtain ⟨cd, hc, _⟩ := any_some T.hd
    exact ⟨cd, hc⟩
  obtain ⟨cdD, hD⟩ := hcC
  obtain ⟨oD, hD1, hD2⟩ : ∃ oD, K.lookup C = some oD ∧ oD.data = .cls cdD := by
    unfold clsIn at hD
    split at hD
    · rename_i c d cd' sl ho
      cases hD
      exact ⟨_, ho, rfl⟩
    · cases hD
  have nd := G.nd
  have hbn : (((("self" : Str), Value.ref x) :: bs).map (·.1)).Nodup := by
    rw [List.map_cons, hbs]
    exact nd
  refine ks_codeAny_call_defAt (fd := ksFn "__init__" qual params _ scope dV kV doc pm an (.ref cda) ct cc) hroom (X _ _ hfn) rfl hlim (codeRec_of X hcd) rfl hbind G.nocell (fun y hy => ?_) (fun h₀ hns k₀ => ?_) G.co G.gen G.kind
  · rcases List.mem_cons.mp hy with rfl | hy
    · exact G.nself
    · exact (G.nfs y.1 (by rw [← hbs]; exact List.mem_map_of_mem hy)).1
  obtain ⟨hp, g, d, tk, os⟩ := s
  have X0 : K.In h₀ := X.keeps k₀
  have hLx : hp.objs.size ≠ x := Nat.ne_of_gt (Heap.lt_size hx)
  have look : ∀ p ∈ ((("self" : Str), Value.ref x) :: bs), ((("self" : Str), Value.ref x) :: bs).reverse.lookup p.1 = some p.2 := fun p hp => lookup_nodup (by rw [List.map_reverse]; exact (List.reverse_perm _).nodup_iff.mpr hbn) (List.mem_reverse.mpr hp)
  have hself := look (("self" : Str), .ref x) List.mem_cons_self
  show PySem.wpAt _ _ _ (execs _ (ksEnv qual scope hp.objs.size fI (.ref cda) cc)) _ _ _
  have hint : interactive (ksEnv qual scope hp.objs.size fI (.ref cda) cc) = false := by
    unfold interactive
    rw [show (ksEnv qual scope hp.objs.size fI (.ref cda) cc).scope.kind = .function from G.kind]
    rfl
  refine ks_wpAt_execs_cons (ks_wpAt_Expr_any (ks_wpAt_MethodCall (ks_wpAt_super_base (env := ksEnv qual scope hp.objs.size fI (.ref cda) cc) G.nsup G.ncls (by decide) rfl (X0 _ _ hfn) rfl hhead rfl (X0 _ _ hcode) rfl hvs hfile G.top ?_) (method_eq hline)) hint rfl)
  refine ks_loadName_global G.kind G.nsup (loadGlobal_builtin (env := ksEnv qual scope hp.objs.size fI (.ref cda) cc) (hg.keeps k₀) G.mgs (hb1.keeps k₀) ((hb2 _ (by decide)).trans Boot.«super») ⟨rfl, ?_⟩)
  refine wpAny_loadName_free G.kind G.ncls rfl ⟨_, X0 _ _ hcell, rfl⟩ ?_
  refine wpAny_loadName_local (env := ksEnv qual scope hp.objs.size fI (.ref cda) cc) G.kind (by rw [har]; exact G.nself) hns (by rw [har]; exact hself) ?_
  refine ks_wpAny_isType_cls (X0 _ _ hD1) hD2 ⟨rfl, ?_⟩
  refine ks_wpAny_call_super (X0 _ _ hD1) hD2 (k₀ _ _ hx) rfl (fun c e => by cases e) (looks_mroIn X0 G.msub) fun h1 e1 k1 => ?_
  have X1 : K.In h1 := X0.keeps k1
  have hx1 := k1 _ _ (k₀ _ _ hx)
  have I1 : InstAt h1 x (excObj C t0 none .none) C none := ⟨hx1, rfl, rfl, trivial⟩
  have hsup := T.sup
  unfold ks_superIn at hsup
  rw [hD, Option.bind_some] at hsup
  refine kxs_getMethod T.KF e1 (looks_opaque X1 G.opq) (l₀ := cdD.mro) (fun A Q E s k q => wpAny_bind ((looks_clsIn X1 hD) A _ E s k (wpAny_pure q))) rfl X1 hsup (I1.type.andThen (looks_subIn X1 T.subB)) (ks_ne X1 I1 hD) (by decide) ?_
  have hu : (h1.push (kxs_mw i x)).get? h1.objs.size = some (kxs_mw i x) := Heap.get?_push_size _ rfl
  have k2 : ∀ b o, h1.get? b = some o → (h1.push (kxs_mw i x)).get? b = some o := fun b o e => Heap.get?_push_of_some _ e
  refine kxs_callWith (i := i) (x := x) (first := []) rfl (evalArgs_plain (spliced_cons (Constant_str (k := k) (pos := p3) (spliced_nil ⟨hu, ?_⟩))))
  refine mw_call T (X1.keeps k2) hu (k2 _ _ hx1) (by rw [sizeLine_eq]; show 1 ≤ _; decide) fun h2 t2 k3 hz3 e3 => ?_
  have kx : ∀ b o, b ≠ x → hp.get? b = some o → h2.get? b = some o := fun b o hb e => k3 b o hb (k2 b o (k1 b o (k₀ b o e)))
  have kx0 : ∀ b o, b ≠ x → h₀.get? b = some o → h2.get? b = some o := fun b o hb e => k3 b o hb (k2 b o (k1 b o e))
  have X2 : K.In h2 := fun a o e => kx a o (fun z => by rw [z, hKx] at e; cases e) (X a o e)
  have hsz : hp.objs.size ≤ h2.objs.size := by
    obtain ⟨oL, _, _, eL, _⟩ := hns
    exact Nat.le_of_lt (Heap.lt_size (kx0 _ _ hLx eL))
  refine wpAt_of_wpAny ?_
  refine stores_ok (h0 := h2) (env := ksEnv qual scope hp.objs.size fI (.ref cda) cc) T G.kind G.nself hself (hns.at fun o e => kx0 _ o hLx e) hLx X2 hKx (fun f => (bs.lookup f).getD .none) fs rest [] _ hst (fun f hf => ?_) (fun b o _ e => e) (Nat.le_refl _) (.inl ⟨rfl, t2, e3⟩) (by have := G.few; simp; omega) fun h' tk' k4 hz4 hF => ?_
  · obtain ⟨n1, n2, n3⟩ := G.nfs f hf
    refine ⟨n1, n2, n3, ?_⟩
    rw [← hbs] at hf
    obtain ⟨p, hp2, rfl⟩ := List.mem_map.mp hf
    rw [look p (List.mem_cons_of_mem _ hp2), lookup_nodup (List.nodup_cons.mp hbn).2 hp2]
    rfl
  · have nb : (bs.map (·.1)).Nodup := (List.nodup_cons.mp hbn).2
    rw [← hbs, map_val nb, List.append_nil] at hF
    rcases hF with ⟨e, _⟩ | ⟨dx, t3, q1, q2, q3, q4⟩
    · refine hq h' _ 0 0 (fun b o hb e => k4 b o hb (kx b o hb e)) fun hne => absurd (List.reverse_eq_nil_iff.mp e) hne
    · refine hq h' _ dx t3 (fun b o hb e => k4 b o hb (kx b o hb e)) fun _ => ⟨Nat.le_trans hsz q1, q2, q3, ?_⟩
      rwa [show (fun y => bs.reverse.lookup y) = fun y => bs.lookup y from lookup_rev nb] at q4
end
end EX
end
section
set_option Elab.async false
set_option linter.all false
set_option maxRecDepth 100000
set_option maxHeartbeats 2000000
set_option autoImplicit false
/-! EX2: raise C(..) of such a class. -/
namespace EX
open PySem PySem.W PySem.Calls PyProof.Rows L2
theorem lookup_rel : ∀ {fs : List Str} {vs : List V} {us : List Value}, Vals vs us → ∀ f : Str, RelO ((fs.zip vs).lookup f) ((fs.zip us).lookup f)
  | [], _, _, _, f => by simp [List.zip_nil_left]; trivial
  | g :: fs, _, _, .nil, f => by simp; trivial
  | g :: fs, _, _, .cons r t, f => by
    rw [List.zip_cons_cons, List.zip_cons_cons, lookup_cons_if, L2.lookup_put]
    by_cases h : f = g
    · rw [if_pos h, if_pos h]; exact r
    · rw [if_neg h, if_neg h]; exact lookup_rel t f
theorem zip_keys {α : Type} : ∀ {fs : List Str} {us : List α}, us.length = fs.length → (fs.zip us).map (·.1) = fs
  | [], [], _ => rfl
  | [], _ :: _, h => by cases h
  | _ :: _, [], h => by cases h
  | f :: fs, u :: us, h => by
    rw [List.zip_cons_cons, List.map_cons, zip_keys (by simpa using h)]
/-- C(e, ..): a new exception of the class at C, whose dict d holds the fields -/
def tMkEx (C : Addr) (fs : List Str) (dvs : List V) (ta : TA) : L2.St → Hp → XK → Prop := fun σ H Q => ta σ H fun vs H1 => vs.length + dvs.length = fs.length ∧ ∀ d, H1 d = none → Q (.ref C) (some d) (upd H1 d (.xd (fs.zip (vs ++ dvs))))
/-- all that the written part says of such a class -/
structure ExA (prog : Program) (K : Frag) (mg : Str → Option Value) (nm : Str) (C fI cc cda : Addr) (B i newId : String) (bmB : List Value) (fd : FuncData) (fs : List Str) (ds : List Value) (body : List Stmt) (scope : Scope) : Prop where
  T : ExK K C B i newId bmB
  G : ExF prog K mg C fI cc cda fd fs body scope
  iC : findIn K (.ref C) "__init__" = some (some (.ref fI))
  tI : typeIn K (.ref fI) = some (.type "function")
  kC : keepIn K (.ref C) = true
  exC : subIn K (.ref C) (.type "BaseException") = some true
  tyC : typeIn K (.ref C) = some (.type "type")
  gC : mg nm = some (.ref C)
  bd : ∀ (s : Shared) (x : Addr) (us : List Value), us.length + ds.length = fs.length → BindsTo s fd ⟨.ref x :: us, []⟩ ((("self" : Str), .ref x) :: fs.zip (us ++ ds))
section
variable {X : Cx} {nm : Str} {C fI cc cda : Addr} {B i newId : String} {bmB : List Value} {fd : FuncData} {fs : List Str} {ds : List Value} {dvs : List V} {body : List Stmt} {scope : Scope} {k : Nat}
theorem pmk_ex {e : Expr} {es : List Expr} {ta : TA} {p pos : Pos} (T : ExA X.prog X.K X.mg nm C fI cc cda B i newId bmB fd fs ds body scope) (hds : Vals dvs ds) (hr : Room (k + 2) X.A) (ha : PA X (e :: es) ta) (hg : Gl X nm) (hdb : (nm == ("__debug__" : Str)) = false)
    (hne : fs ≠ []) (he : starEach (e :: es) X.env = (false, eval e X.env) :: starEach es X.env) (hpl : (backTo pos (starEach es X.env)).any (·.1) = false) :
    PMk X (.Call (.Name nm p) (e :: es) [] pos) (tMkEx C fs dvs ta) := by
  intro pins s σ H Q I h
  refine wpAny_Call_Name_kw (ld_glob I hg T.gC ?_ hdb)
  refine PySem.W.callWith_K (h₀ := X.base) I.ok.mod.kin T.kC (thn (ha.run pos pins s σ H _ I h) fun us s1 hh => ?_) he hpl
  obtain ⟨vs, H1, I1, r1, hlen, q1⟩ := hh
  refine ⟨I1.kIn, ?_⟩
  show wpAny _ _ (call (.ref C) us) _ _ _
  have hlim := I1.nolimit
  have hmod := I1.mod
  have hbk := I1.bk
  obtain ⟨nm', N', qn, bs, bm, hdct, sn, sub, ab, col, dd, k0, k1, k2, k3, k5, hC, hT⟩ := excInit_of I1.kIn T.T.ini
  obtain ⟨hp, g, dr, tk, os⟩ := s1
  have kk : ∀ b o, hp.get? b = some o → ((hp.push (kdv_tup us)).push (HandSPX.excO C hp.objs.size)).get? b = some o := fun b o e => Heap.get?_push_of_some _ (Heap.get?_push_of_some _ e)
  have hget : ((hp.push (kdv_tup us)).push (HandSPX.excO C hp.objs.size)).get? (hp.objs.size + 1) = some (excObj C hp.objs.size none .none) := by heap_get
  have hnx : X.K.lookup (hp.objs.size + 1) = none := by
    cases e : X.K.lookup (hp.objs.size + 1) with
    | none => rfl
    | some o =>
      have z : hp.get? (hp.objs.size + 1) = some o := I1.kIn _ _ e
      exact absurd (Nat.lt_of_succ_lt (Heap.lt_size z)) (Nat.lt_irrefl _)
  have hul : us.length + ds.length = fs.length := by rw [← r1.length, ← hds.length]; exact hlen
  have hus : us.length ≤ sizeLine := by
    have := T.G.few
    rw [sizeLine_eq]
    omega
  have hl2 : (us ++ ds).length = fs.length := by rw [List.length_append]; exact hul
  obtain ⟨mb, hb1, hb2⟩ := hmod.blt
  refine wpAny_call (HandSPX.call_own T.T.FB hT hC (looks_findIn I1.kIn T.iC) (fun self => bind_fn I1.kIn self T.tI) hus ?_)
  refine init_run (s := ⟨(hp.push (kdv_tup us)).push (HandSPX.excO C hp.objs.size), g, dr, tk, os⟩) T.T T.G (I1.kIn.keeps kk) (hlim.keeps kk) ((hmod.glob.keeps hbk).keeps kk) ⟨mb, (hb1.keeps hbk).keeps kk, hb2⟩ hget hnx ?_ (zip_keys hl2) (T.bd _ _ us hul) fun h' tk' dx t1 k' hd => ?_
  · have := hr.dp
    show X.A.depth + 1 < recursionLimit
    omega
  obtain ⟨dn, dne, hx', hns⟩ := hd (fun z => hne (by rw [← zip_keys hl2, z]; rfl))
  have dn' : hp.objs.size ≤ dx := Nat.le_trans (by rw [Heap.size_push, Heap.size_push]; omega) dn
  refine ⟨rfl, ?_⟩
  show MkP X pins σ Q (.ref (hp.objs.size + 1)) ⟨h', g, dr, tk', os⟩
  obtain ⟨G', g1, g2⟩ := restrict h' fun b => decide (b ≠ hp.objs.size + 1)
  have gk : ∀ b, b ≠ hp.objs.size + 1 → G'.get? b = h'.get? b := fun b hb => g1 b (decide_eq_true hb)
  have ge : G'.get? (hp.objs.size + 1) = none := g2 _ (by simp)
  have nb : ∀ {b : Addr} {o : Obj}, hp.get? b = some o → b ≠ hp.objs.size + 1 := fun {b o} q => Nat.ne_of_lt (Nat.lt_succ_of_lt (Heap.lt_size q))
  have old : ∀ b o, hp.get? b = some o → G'.get? b = some o := fun b o q => (gk b (nb q)).trans (k' b o (nb q) (kk b o q))
  have ob : ObjOk X.prog X.w (upd H1 dx (.xd (fs.zip (vs ++ dvs)))) G' dx (.xd (fs.zip (vs ++ dvs))) :=
    ⟨_, hns.at (fun o q => (gk dx dne).trans q), fun f => lookup_rel (r1.append hds) f⟩
  have J : Inv X pins σ (upd H1 dx (.xd (fs.zip (vs ++ dvs)))) ⟨G', g, dr, tk', os⟩ := I1.laid (t' := tk') old dn' ob
  refine ⟨hp.objs.size + 1, _, _, ⟨G', g, dr, tk', os⟩, _, .ref C, some dx, rfl, J, fun b o q => ?_, ge, hx', ⟨rfl, rfl⟩, rfl, rfl, ?_, rfl, I1.bare, raises_own T.exC T.tyC, q1 dx (I1.hok.fresh dn')⟩
  · by_cases hb : b = hp.objs.size + 1
    · have q' : G'.get? b = some o := q
      rw [hb, ge] at q'; cases q'
    · exact (gk b hb).symm.trans q
  · rw [upd_ne (Ne.symm dne)]
    exact I1.hok.fresh (Nat.le_succ _)
end
end EX
end
section
set_option Elab.async false
set_option linter.all false
set_option maxRecDepth 100000
set_option maxHeartbeats 2000000
set_option autoImplicit false
/-! Y9x: errors of the text: raised, held, read. -/
namespace Y
open PySem L2
variable {ad : Ad} {K : PySem.W.Frag} {G G' G1 G2 H H' H1 H2 : Hp}
theorem RepFs.look : ∀ {fs : List (Str × PV)} {fvs : List (Str × V)}, RepFs ad K G fs fvs → ∀ {f : Str} {p : PV}, fs.lookup f = some p → ∃ v, fvs.lookup f = some v ∧ Rep ad K G p v []
  | _, _, .nil, f, p, h => by simp at h
  | (g, q) :: fs, (_, w) :: vs, .cons r t, f, p, h => by
    simp only [List.lookup_cons] at h ⊢
    cases e : f == g with
    | true =>
      rw [e] at h
      cases h
      exact ⟨w, rfl, r⟩
    | false =>
      rw [e] at h
      exact RepFs.look t h
theorem lookup_key {α : Type} : ∀ {l : List (Str × α)} {x : Str} {g : α}, l.lookup x = some g → x ∈ l.map (·.1)
  | [], x, g, h => by simp at h
  | (n, b) :: l, x, g, h => by
    rw [List.lookup_cons] at h
    cases hx : x == n with
    | true => rw [eq_of_beq hx]; exact List.mem_cons_self
    | false => rw [hx] at h; exact List.mem_cons_of_mem _ (lookup_key h)
theorem RepFs.zip : ∀ {fs : List Str} {ps : List PV} {vs : List V}, RepL ad K G ps vs [] → RepFs ad K G (fs.zip ps) (fs.zip vs)
  | [], _, _, _ => .nil
  | f :: fs, [], vs, r => by
    obtain ⟨rfl, _⟩ := r.nil'
    exact .nil
  | f :: fs, p :: ps, vs, r => by
    obtain ⟨v, ws, rfl, r1, r2⟩ := r.inv0'
    exact .cons r1 (RepFs.zip r2)
/-- the exception that the suite holds stands by slot i -/
def HeldAt (ad : Ad) (X : Cx) (cf : Cf) (i : Nat) : Prop := ∀ x, cf.cur = some x → ∃ (X' : Cx) (a d : Addr) (oe : Obj) (pn : List (Addr × Obj)), X = X'.suite a ((a, oe) :: pn) ∧ ad.cur = some ⟨i, a, d, x⟩ ∧ Zc (.ref (ad x.cls)) (some d) oe ∧ ∃ vs, oe.data = .fields vs
section
variable {X : Cx} {W : WX} {P : Pt} {cf : Cf} {pos : Pos} {D : Ends}
theorem se_xf {i : Nat} {e : Expr} {f : Str} (hH : HeldAt ad X cf i) (he : PE X e (tVar i)) (hb : attributeBase e f X.env (eval e X.env) = eval e X.env) : SE ad X W (.Attribute e f pos) (evE cf (.xf f)) := by
  refine ⟨fun pins s σ H Q I hq => ?_⟩
  obtain ⟨ρ, G, c, sl, hh, ha⟩ := hq
  simp only [evE] at ha
  cases hc : cf.cur with
  | none => rw [hc] at ha; exact ha.elim
  | some x =>
    rw [hc] at ha
    dsimp only [Option.bind] at ha
    obtain ⟨X', a, d, oe, pn, rfl, hcur, hz, hf⟩ := hH x hc
    cases hl : x.fs.lookup f with
    | none => rw [hl] at ha; exact ha.elim
    | some p =>
      rw [hl] at ha
      have hx := sl.x
      unfold XcOk at hx
      rw [hcur] at hx
      obtain ⟨hσ, fvs, hG, hr, ho, hsub⟩ := hx
      obtain ⟨v, hv, hp⟩ := hr.look hl
      refine (pe_xf (C := ad x.cls) ho.xf (ho.fno f (hsub f (lookup_key hl))) hz hf he hb).run pins s σ H Q I ?_
      exact ⟨.ref a, hσ, rfl, rfl, d, fvs, v, rfl, hh.fz _ _ hG, hv, ha v H G c [] (toL Step.refl) sl (toH hh) hp.ofB⟩
theorem ss_rai {d : XD} {C fI cc cda : Addr} {B i newId : String} {bmB : List Value} {fd : FuncData} {body : List Stmt} {scope : Scope} {k : Nat} {e : Expr} {es : List Expr} {ies : List IE} {p pos2 : Pos} (hc : X.calm = true) (tk : Takes X W)
    (T : EX.ExA X.prog X.K X.mg d.cls C fI cc cda B i newId bmB fd d.fs [] body scope) (hC : C = ad d.cls) (hx : XdOk ad X.K d) (hr : Room (k + 2) X.A) (ha : SLs ad X W (e :: es) (evL cf ies)) (hg : Gl X d.cls) (hdb : (d.cls == ("__debug__" : Str)) = false) (hne : d.fs ≠ [])
    (he : starEach (e :: es) X.env = (false, eval e X.env) :: starEach es X.env) (hpl : (backTo pos (starEach es X.env)).any (·.1) = false) : SS ad X W P (.Raise (some (.Call (.Name d.cls p) (e :: es) [] pos)) none pos2) (evS cf (.rai d ies)) := by
  subst hC
  refine (ps_raise hc tk (EX.pmk_ex T .nil hr ha hg hdb hne he hpl)).imp fun D σ H ⟨ρ, G, c, kp, sl, hh, h⟩ => ?_
  simp only [evS] at h
  refine ⟨ρ, G, c, sl, hh, h.seq kp fun ps ρ1 vs H1 G1 c1 t s sl1 h1 hv k => ?_⟩
  have hv' : RepL ad X.K G1 ps vs t := hv
  split at k
  · rename_i hz
    refine ⟨by rw [← hv'.length, hz]; rfl, fun dd hd => ?_⟩
    have h1' := h1.absorb
    obtain ⟨q1, q2⟩ := h1'.newF hd (.xd (d.fs.zip (vs ++ [])))
    exact k dd σ _ _ c1 kp ((s.absorb h1).trans q2 h1') ((sl1.mono (addc_sub h1.right)).mono q2.fz) q1 ⟨_, upd_same, by have z := (RepFs.zip (fs := d.fs) ((RepL.absorb h1 hv').mono q2.fz)); simpa only [List.append_nil] using z, hx, fun f hf => by
      obtain ⟨z, hz1, rfl⟩ := List.mem_map.mp hf
      exact (List.of_mem_zip (show (z.1, z.2) ∈ _ from hz1)).1⟩
  · exact k.elim
/-! ### tuples whose items are held alone -/
def tIt (i k : Nat) : TE := fun σ H Q => ∃ a vs w, σ[i]? = some (some (.ref a)) ∧ H a = some (.tup vs) ∧ vs[k]? = some w ∧ Q w H
theorem ix_some {n k : Nat} (h : k < n) : ixN n (k : Int) = some k := by
  unfold ixN
  rw [if_pos (Int.natCast_nonneg k), if_pos (Int.ofNat_lt.mpr h)]
  rfl
theorem pe_it {i k : Nat} {e b : Expr} (he : PE X e (tVar i)) (hb : PE X b (tC (.int k))) (hp : PlainIx b) : PE X (.Subscript e b pos) (tIt i k) := (pe_ix ix_tup he hb hp).imp fun σ H Q ⟨a, vs, w, h1, h2, h3, q⟩ => by
  refine ⟨.ref a, h1, a, vs, (k : Int), w, rfl, rfl, ?_, ?_, q⟩
  · first
      | exact h2
      | exact .of h2
  · show (ixN vs.length (k : Int)).bind (fun j => vs[j]?) = some w
    have hk : k < vs.length := by
      rcases Nat.lt_or_ge k vs.length with z | z
      · exact z
      · rw [List.getElem?_eq_none z] at h3
        cases h3
    rw [ix_some hk]
    exact h3
theorem so_it {i k : Nat} {e : Expr} {run : Fr → Res PV} (h : PE X e (tIt i k)) : SO ad X W e (opnd (.it i k) run) := h.imp fun σ H Q ⟨ρ, G, c, sl, hh, ha⟩ => by
  simp only [opnd] at ha
  split at ha
  · rename_i xs ex
    split at ha
    · rename_i hk
      obtain ⟨v, d, r, e1, e2, e3, e4⟩ := sl.out ex
      cases e2 with
      | @tup a _ vs _ g rl =>
        obtain ⟨w, d', f1, f2, f3⟩ := rl.get (List.getElem?_eq_getElem hk)
        exact ⟨a, vs, w, e1, hh.fz _ _ g, f1, ha w H G c [] (toL Step.refl) sl (toH hh) ⟨rfl, a, vs, e1, g, f1⟩⟩
    · exact ha.elim
  · exact ha.elim
theorem se_tupo {es : List Expr} {as : List IE} {n : Nat} (h : SLs ad X W es (evL cf as)) : SE ad X W (.Tuple es n pos) (evE cf (.tupo as)) := (pe_tup h).imp fun σ H Q hq => by
  obtain ⟨ρ, G, c, sl, hh, ha⟩ := hq
  simp only [evE] at ha
  refine ⟨ρ, G, c, sl, hh, ha.seq fun ps ρ1 vs H1 G1 c1 t s sl1 h1 hv k => ?_⟩
  have hv' : RepL ad X.K G1 ps vs t := hv
  split at k
  · rename_i hz
    refine ⟨by rw [← hv'.length]; exact okS_le hz, fun p hp => ?_⟩
    obtain ⟨q1, q2⟩ := h1.newF hp (.tup vs)
    exact k (.ref p) _ (upd G1 p (.tup vs)) c1 t (s.trans q2 h1) (sl1.mono q2.fz) q1 (.tup upd_same (hv'.mono q2.fz))
  · exact k.elim
theorem RepL.pick : ∀ {xs : List PV} {vs : List V} {c : List Cell}, RepL ad K G xs vs c → ∀ {k : Nat} {ys : List PV}, xs[k]? = some (.lst true ys) →
    ∃ l ws e rest, vs[k]? = some (.ref l) ∧ RepL ad K G ys ws e ∧ c.Perm ((l, .lst ws) :: (e ++ rest)) ∧ ∀ ys' ws' e', RepL ad K G ys' ws' e' → ∃ c', RepL ad K G (xs.set k (.lst true ys')) vs c' ∧ c'.Perm ((l, .lst ws') :: (e' ++ rest))
  | _, _, _, .nil, k, ys, h => by simp at h
  | x :: xs, v :: vs, _, .cons (c := c1) (cs := cs) r t, 0, ys, h => by
    cases h
    cases r with
    | @lstO l _ ws cs' rl => exact ⟨l, ws, cs', cs, rfl, rl, List.Perm.refl _, fun ys' ws' e' r' => ⟨_, .cons (.lstO r') t, List.Perm.refl _⟩⟩
  | x :: xs, v :: vs, _, .cons (c := c1) (cs := cs) r t, k + 1, ys, h => by
    obtain ⟨l, ws, e, rest, h1, h2, h3, h4⟩ := RepL.pick t (k := k) (ys := ys) h
    have mv : ∀ (z : Cell) (a b : List Cell), (c1 ++ (z :: (a ++ b))).Perm (z :: (a ++ (c1 ++ b))) := fun z a b => by
      refine List.perm_middle.trans (List.Perm.cons _ ?_)
      rw [← List.append_assoc, ← List.append_assoc]
      exact List.perm_append_comm.append_right b
    refine ⟨l, ws, e, c1 ++ rest, h1, h2, (h3.append_left c1).trans (mv _ _ _), fun ys' ws' e' r' => ?_⟩
    obtain ⟨c', q1, q2⟩ := h4 ys' ws' e' r'
    exact ⟨_, .cons r q1, (q2.append_left c1).trans (mv _ _ _)⟩
theorem rd_appi {i k : Nat} {x : Str} {σ : St} {H : Hp} (hq : rdS ad X W P (evS cf (.appi i k x)) D σ H) : tDrop (tBM X.K "list" rAppend (tIt i k) (tCons (tC (.str x)) tNil)) D σ H := by
  obtain ⟨ρ, G, c, kp, sl, hh, h⟩ := hq
  simp only [evS] at h
  split at h
  · rename_i xs ex
    split at h
    · rename_i ys ey
      split at h
      · rename_i hl
        obtain ⟨v, d, r, e1, e2, e3, e4⟩ := sl.out ex
        cases e2 with
        | @tup a _ vs _ g rl =>
          obtain ⟨l, ws, e, rest, f1, f2, f3, f4⟩ := rl.pick ey
          have pm : c.Perm ((l, HO.lst ws) :: (e ++ rest ++ r)) := e4.trans (f3.append_right r)
          have h1 := hh.perm pm
          obtain ⟨w1, w2⟩ := h1.write (.lst (ws ++ [.str x]))
          have hH : H l = some (.lst ws) := h1.at_ (l, HO.lst ws) List.mem_cons_self
          refine ⟨a, vs, .ref l, e1, hh.fz _ _ g, f1, .inl ⟨rfl, ws, .of hH⟩, l, ws, .str x, rfl, rfl, hH, by rw [← f2.length]; exact hl, ?_⟩
          obtain ⟨c', q1, q2⟩ := f4 (ys ++ [.str x]) (ws ++ [.str x]) e (by simpa using f2.append (RepL.cons (c := []) (cs := []) (Rep.str x) .nil))
          obtain ⟨c2, s2, p2⟩ := e3.tell (i := i) at_set_none (by simpa using at_lt ex) e1 (.tup g q1)
          rw [set_set_none] at s2
          have pm2 : ((l, HO.lst (ws ++ [.str x])) :: (e ++ rest ++ r)).Perm c2 := by
            refine List.Perm.trans ?_ p2.symm
            exact (q2.append_right r).symm
          exact h σ _ G c2 kp ((w2.perm pm.symm (List.Perm.refl _)).perm (List.Perm.refl _) pm2) s2 (w1.perm pm2)
      · exact h.elim
    · exact h.elim
  · exact h.elim
/-! ### try -/
theorem Slots0.setN {ρ : Fr} {σ : St} {c : List Cell} (s : Slots0 ad K G ρ σ c) {i : Nat} {v : Option V} (h : Fr.at ρ i = Option.none) : Slots0 ad K G ρ (σ.set i v) c :=
  s.congr (by rw [List.length_set]) fun j p e => by
    have : i ≠ j := fun z => by rw [← z, h] at e; cases e
    rw [List.getElem?_set_ne this]
/-- the ends within a named clause's suite -/
abbrev endI (D : Ends) (i : Nat) : Ends := { nx := fun σ' H' => D.nx (σ'.set i none) H', rt := D.rt, bk := fun σ' H' => D.bk (σ'.set i none) H', ct := fun σ' H' => D.ct (σ'.set i none) H' }
theorem aft_suite {c c' : List Cell} {i : Nat} {z : Xc} {r : Res Fl} {σ' : St} {v : Option V} (h : AftS ad K W P D G c H (sufR (some i) r)) (hcur : ad.cur = none) (hi : i ∉ P.pr) (kp' : P.kp σ') (st : Step G c H G' c' H') (hh' : Hold G' c' H') :
    AftS ⟨ad.nm, some z⟩ K W0 ⟨i :: P.pr, σ'.set i v⟩ (endI D i) G' c' H' r := by
  have hkp : ∀ {σ2 : St}, (Pt.mk (i :: P.pr) (σ'.set i v)).kp σ2 → P.kp (σ2.set i none) := fun {σ2} k => ⟨by rw [List.length_set, k.len]; show (σ'.set i v).length = _; rw [List.length_set]; exact kp'.len, fun j hj => by
    have ne : i ≠ j := fun z => hi (z ▸ hj)
    rw [List.getElem?_set_ne ne, k.at_ j (List.mem_cons_of_mem _ hj)]
    show (σ'.set i v)[j]? = _
    rw [List.getElem?_set_ne ne]
    exact kp'.at_ j hj⟩
  cases r with
  | bad => exact h.elim
  | ex x ρ => exact h.elim
  | ok f ρ =>
    have key : ∀ {σ2 : St} {G2 : Hp} {c2 : List Cell}, Slots ⟨ad.nm, some z⟩ K G2 ρ σ2 c2 → ∃ g r, Slots ad K G2 (ρ.set i none) (σ2.set i none) r ∧ c2.Perm (g ++ r) := fun {σ2 G2 c2} sl2 => by
      obtain ⟨g, r, s3, pm⟩ := sl2.b.drop i
      exact ⟨g, r, ⟨(Slots0.re (ad := ⟨ad.nm, some z⟩) (ad' := ad) rfl s3).setN at_set_none, .of_none hcur⟩, pm⟩
    cases f with
    | nx =>
      intro σ2 H2 G2 c2 kp2 st2 sl2 hh2
      obtain ⟨g, r, s4, pm⟩ := key sl2
      exact h (σ2.set i none) H2 G2 r (hkp kp2) (((st.trans st2 hh').perm (List.Perm.refl _) pm).less fun z hz => List.mem_append_right _ hz) s4 (hh2.perm pm).right
    | bk =>
      intro σ2 H2 G2 c2 kp2 st2 sl2 hh2
      obtain ⟨g, r, s4, pm⟩ := key sl2
      exact h (σ2.set i none) H2 G2 r (hkp kp2) (((st.trans st2 hh').perm (List.Perm.refl _) pm).less fun z hz => List.mem_append_right _ hz) s4 (hh2.perm pm).right
    | ct =>
      intro σ2 H2 G2 c2 kp2 st2 sl2 hh2
      obtain ⟨g, r, s4, pm⟩ := key sl2
      exact h (σ2.set i none) H2 G2 r (hkp kp2) (((st.trans st2 hh').perm (List.Perm.refl _) pm).less fun z hz => List.mem_append_right _ hz) s4 (hh2.perm pm).right
    | rt p =>
      intro w σ2 H2 G2 c2 t kp2 st2 sl2 hh2 hr
      obtain ⟨g, r, s4, pm⟩ := key sl2
      have p3 : (c2 ++ t).Perm (g ++ (r ++ t)) := by
        rw [← List.append_assoc]
        exact pm.append_right t
      exact h w (σ2.set i none) H2 G2 r t (hkp kp2) (((st.trans st2 hh').perm (List.Perm.refl _) p3).less fun z hz => List.mem_append_right _ hz) s4 (hh2.perm p3).right (Rep.re (ad := ⟨ad.nm, some z⟩) (ad' := ad) rfl hr)
/-- try: .. except k as n: .. -/
theorem ss_tryAs {k n : Str} {i : Nat} {body suite : List Stmt} {b₀ : Stmt} {np pos' : Pos} {ib is : List IS} (hs : X.stack = X.env :: X.outer) (hf : X.env.frame = some X.env.locals) (hN : X.N.Nodup) (hi : X.N[i]? = some n) (hln : X.env.kindOf n = some .local) (hc : Names X k (.ref (ad k))) (tk : Takes X W)
    (hcur : ad.cur = none) (hp : i ∉ P.pr) (hb : ∀ (W : WX) (pn : List (Addr × Obj)) (xe : Value → Shared → Prop), Takes (X.tr pn xe) W → PassesOwn (model X.prog X.w) X.A X.env xe → SB ad (X.tr pn xe) W P body (evB cf ib))
    (hsu : ∀ (a : Addr) (oe : Obj) (dd : Addr) (x : PX) (pn : List (Addr × Obj)), Zc (.ref (ad x.cls)) (some dd) oe → (∃ vs, oe.data = .fields vs) → ∀ σ0, SB ⟨ad.nm, some ⟨i, a, dd, x⟩⟩ (X.suite a ((a, oe) :: pn)) W0 ⟨i :: P.pr, σ0⟩ (b₀ :: suite) (evB { cf with cur := some x } is)) :
    SS ad X W P (.Try body [.ExceptHandler (some (.Name k np)) (some n) (b₀ :: suite) pos'] [] [] pos) (evS cf (.tryx ib (.cons k (some i) is .nil))) := by
  refine (ps_try_as (Wout := W) (tb := fun W => rdS ad X W P (evB cf ib)) (ts := fun a cls d D σ H => ∃ (x : PX) (dd : Addr), cls = .ref (ad x.cls) ∧ d = some dd ∧ rdS ⟨ad.nm, some ⟨i, a, dd, x⟩⟩ X W0 ⟨i :: P.pr, σ⟩ (evB { cf with cur := some x } is) D σ H) hs hf hN hi hln hc tk (fun W pn xe t p => hb W pn xe t p) fun a oe cls d pn hz hfd => ⟨fun pins s σ H D I hq => ?_⟩).imp fun D σ H ⟨ρ, G, c, kp, sl, hh, h⟩ => ?_
  · obtain ⟨x, dd, rfl, rfl, hw⟩ := hq
    exact (hsu a oe dd x pn hz hfd σ).run pins s σ H D I hw
  · refine ⟨ρ, G, c, kp, sl, hh, ?_⟩
    simp only [evS] at h
    cases er : evB cf ib ρ with
    | bad => rw [er] at h; exact h
    | ok f ρ1 =>
      rw [er] at h
      cases f <;> exact h
    | ex x ρ1 =>
      rw [er] at h
      simp only [evH] at h
      intro dd σ' H' G' c' kp' st sl' hh' hx
      obtain ⟨fvs, hG, hr, ho, hsub⟩ := hx
      cases el : x.xd.rel.lookup k with
      | none => rw [el] at h; exact h.elim
      | some b =>
        rw [el] at h
        refine ⟨b, ho.rel _ _ el, fun eb a na => ?_, fun eb => ?_⟩
        · subst eb
          dsimp only at h
          split at h
          · rename_i hfit
            obtain ⟨g, r, s3, pm⟩ := sl'.b.drop i
            have s4 : Slots0 ⟨ad.nm, some ⟨i, a, dd, x⟩⟩ X.K G' (ρ1.set i none) (σ'.set i (some (.ref a))) r := Slots0.re (ad := ad) (ad' := ⟨ad.nm, some ⟨i, a, dd, x⟩⟩) rfl (s3.setN at_set_none)
            have hlt : i < σ'.length := by rw [← sl'.length]; exact of_decide_eq_true hfit
            refine ⟨x, dd, rfl, rfl, ρ1.set i none, G', r, Keep.refl _ _, ⟨s4, ?_⟩, (hh'.perm pm).right, aft_suite h hcur hp kp' ((st.perm (List.Perm.refl _) pm).less fun z hz => List.mem_append_right _ hz) (hh'.perm pm).right⟩
            show XcOk _ _ _ _
            unfold XcOk
            exact ⟨List.getElem?_set_self hlt, fvs, hG, RepFs.re (ad := ad) (ad' := ad.base) rfl hr, XdOk.re (ad := ad) (ad' := ad.base) rfl ho, hsub⟩
          · exact h.elim
        · subst eb
          exact h dd σ' H' G' c' kp' st sl' hh' ⟨fvs, hG, hr, ho, hsub⟩
/-- clauses without names -/
def hdsL (ad : Ad) (X : Cx) (P : Pt) (cf : Cf) : IH → List (Value × (Addr → Value → Option Addr → TS))
  | .nil => []
  | .cons k _ is r => (.ref (ad k), fun _ _ _ => rdS ad X W0 P (evB cf is)) :: hdsL ad X P cf r
def noNames : IH → Bool
  | .nil => true
  | .cons _ i _ r => i.isNone && noNames r
theorem many_go {x : PX} {dd : Addr} {σ' : St} {c c' : List Cell} (kp' : P.kp σ') (st : Step G c H G' c' H') (hh' : Hold G' c' H') (hx : XRep ad X.K G' x dd) : ∀ {hs : IH} {ρ1 : Fr}, noNames hs = true → Slots ad X.K G' ρ1 σ' c' → AftS ad X.K W P D G c H (evH cf hs x ρ1) → wMany X.K W D (hdsL ad X P cf hs) (.ref (ad x.cls)) (some dd) σ' H'
  | .nil, ρ1, _, sl', h => h dd σ' H' G' c' kp' st sl' hh' hx
  | .cons k i is r, ρ1, hn, sl', h => by
    simp only [noNames, Bool.and_eq_true, Option.isNone_iff_eq_none] at hn
    obtain ⟨rfl, hn⟩ := hn
    simp only [evH] at h
    cases el : x.xd.rel.lookup k with
    | none => rw [el] at h; exact h.elim
    | some b =>
      rw [el] at h
      refine ⟨b, hx.elim fun _ z => z.2.2.1.rel _ _ el, fun eb a na => ?_, fun eb => ?_⟩
      · subst eb
        refine ⟨ρ1, G', c', kp', sl', hh', ?_⟩
        change AftS ad X.K W P D G c H (sufR none (evB cf is ρ1)) at h
        cases er : evB cf is ρ1 with
        | bad => rw [er] at h; exact h.elim
        | ex y ρ2 => rw [er] at h; exact h.elim
        | ok f ρ2 =>
          rw [er] at h
          have h2 : AftS ad X.K W P D G' c' H' (.ok f ρ2) := AftS.go h st hh'
          cases f <;> exact h2
      · subst eb
        exact many_go kp' st hh' hx hn sl' h
theorem ss_tryMany {body : List Stmt} {h₀ : ExceptHandler} {hds : List ExceptHandler} {ib : List IS} {ih : IH} (hs : X.stack = X.env :: X.outer) (hf : X.env.frame = some X.env.locals) (tk : Takes X W) (hn : noNames ih = true)
    (hb : ∀ (W : WX) (pn : List (Addr × Obj)) (xe : Value → Shared → Prop), Takes (X.tr pn xe) W → PassesOwn (model X.prog X.w) X.A X.env xe → SB ad (X.tr pn xe) W P body (evB cf ib)) (hh : HdsOk X (h₀ :: hds) (hdsL ad X P cf ih)) :
    SS ad X W P (.Try body (h₀ :: hds) [] [] pos) (evS cf (.tryx ib ih)) := by
  refine (ps_try_many (Wout := W) (tb := fun W => rdS ad X W P (evB cf ib)) hs hf tk (fun W pn xe t p => hb W pn xe t p) hh).imp fun D σ H ⟨ρ, G, c, kp, sl, hh, h⟩ => ?_
  refine ⟨ρ, G, c, kp, sl, hh, ?_⟩
  simp only [evS] at h
  cases er : evB cf ib ρ with
  | bad => rw [er] at h; exact h
  | ok f ρ1 =>
    rw [er] at h
    cases f <;> exact h
  | ex x ρ1 =>
    rw [er] at h
    exact fun dd σ' H' G' c' kp' st sl' hh' hx => many_go kp' st hh' hx hn sl' h
end
end Y
end
section
set_option Elab.async false
set_option linter.all false
set_option maxRecDepth 100000
set_option maxHeartbeats 2000000
set_option autoImplicit false
/-! T1: try with any except clauses, named ones too. -/
namespace Y
open PySem PySem.Spec PyProof.Rows L2
abbrev TsX := Addr → Value → Option Addr → TS
/-- the ends of a clause that names slot i -/
def endO (D : Ends) : Option Nat → Ends
  | none => D
  | some i => { nx := fun τ K => D.nx (τ.set i none) K, rt := D.rt, bk := fun τ K => D.bk (τ.set i none) K, ct := fun τ K => D.ct (τ.set i none) K }
def setO (a : Addr) (τ : L2.St) : Option Nat → L2.St
  | none => τ
  | some i => τ.set i (some (.ref a))
/-- the clauses' wishes, one behind another -/
def wN (K : PySem.W.Frag) (Wo : WX) (D : Ends) : List (Value × Option Nat × TsX) → WX
  | [] => Wo
  | z :: r => fun cl dd τ J => ∃ b, PySem.W.exmOne K cl z.1 = some b ∧ (b = true → ∀ a, J a = none → z.2.2 a cl dd (endO D z.2.1) (setO a τ z.2.1) J) ∧ (b = false → wN K Wo D r cl dd τ J)
/-- an except clause of the text -/
def clauseX (x : Str) (np : Pos) (n : Option Str) (b₀ : Stmt) (su : List Stmt) (p : Pos) : ExceptHandler := .ExceptHandler (some (.Name x np)) n (b₀ :: su) p
def NameOk (X : Cx) : Option Str → Option Nat → Prop
  | none, none => True
  | some n, some i => X.N[i]? = some n ∧ X.env.kindOf n = some .local
  | _, _ => False
inductive HdsN (X : Cx) : List ExceptHandler → List (Value × Option Nat × TsX) → Prop
  | nil : HdsN X [] []
  | cons {x : Str} {c : Value} {n : Option Str} {i : Option Nat} {ts : TsX} {b₀ : Stmt} {su : List Stmt} {np p : Pos} {hds : List ExceptHandler} {l : List (Value × Option Nat × TsX)} (hc : Names X x c) (hn : NameOk X n i)
      (run : ∀ (a : Addr) (ob : Obj) (cl : Value) (dd : Option Addr) (pl : List (Addr × Obj)), Zc cl dd ob → (∃ vs, ob.data = .fields vs) → PSs (X.suite a ((a, ob) :: pl)) (b₀ :: su) (ts a cl dd)) (r : HdsN X hds l) :
      HdsN X (clauseX x np n b₀ su p :: hds) ((c, i, ts) :: l)
section
variable {X : Cx} {body : List Stmt} {hd : ExceptHandler} {hds : List ExceptHandler} {l : List (Value × Option Nat × TsX)} {pos : Pos} {tb : WX → TS} {Wo : WX}
theorem ps_tryN (hst : X.stack = X.env :: X.outer) (hfr0 : X.env.frame = some X.env.locals) (hnd : X.N.Nodup) (tk : Takes X Wo)
    (hb : ∀ (W : WX) (pl : List (Addr × Obj)) (xe : Value → Shared → Prop), Takes (X.tr pl xe) W → PassesOwn (model X.prog X.w) X.A X.env xe → PSs (X.tr pl xe) body (tb W))
    (hh : HdsN X (hd :: hds) l) : PS X (.Try body (hd :: hds) [] [] pos) (fun D σ H => tb (wN X.K Wo D l) D σ H) := by
  refine ⟨fun pins s σ H D I hq0 => ?_⟩
  have okI := I.ok
  have frm : X.A.frames = some (X.env :: X.outer) := okI.frames.trans (by rw [hst])
  refine wpAny_Try_except (wpAny_mono ((hb (wN X.K Wo D l) (X.pn ++ pins) (fun e t1 => wpAny (model X.prog X.w) X.A (noteFrame e X.env) (fun _ t2 => wpAny (model X.prog X.w) X.A (setFlight e none) (fun _ t3 =>
    wpAny (model X.prog X.w) X.A (handleBy e X.env (hd :: hds)) (SP X pins D) X.xe t3) X.xe t2) X.xe t1) (fun ev t xx => ?_) PassesOwn.looking).run [] s σ H D (I.toTry _) hq0) (fun fl t hsp => ?_) (fun _ _ z => z))
  · obtain ⟨q, Bq, sq, pq, τ, J, cl, dd, rfl, I0, nbq, upq, skyq, naq, osq, agq, wq⟩ := xx
    have I1 : Inv X pins τ J sq := I0.ofTry okI
    have sky2 : Sky Bq (X.env :: X.outer) q (Zc cl dd) X.env.locals t.heap := hst ▸ skyq
    show wpAny (model X.prog X.w) X.A (noteFrame (.ref q) X.env) _ _ _
    refine Sky.land Zc.steady frm hfr0 sky2 fun hp flp upp => ?_
    have I2 : Inv X pins τ J { t with heap := hp } := I1.landed nbq flp.1 (upq.trans upp) osq agq
    obtain ⟨ob, vs, eo, zo, do_⟩ := flp.there
    have frno : q ∉ frs (X.env :: X.outer) := fun hm => by
      obtain ⟨_, o', e', hnf⟩ := flp.2.2.1.mem hm
      have e2 := eo.symm.trans e'
      cases e2
      exact hnf _ do_
    have notL : q ≠ X.env.locals := fun z => frno (List.mem_filterMap.mpr ⟨X.env, List.mem_cons_self, by rw [hfr0, z]⟩)
    have notF : q ∉ X.fs := fun hm => by
      obtain ⟨ee, hee, qq⟩ := List.mem_filterMap.mp hm
      exact frno (List.mem_filterMap.mpr ⟨ee, List.mem_cons_of_mem _ hee, qq⟩)
    have I3 := I2.suite eo do_ naq notL notF
    have walk : ∀ {hs2 : List ExceptHandler} {l2 : List (Value × Option Nat × TsX)}, HdsN X hs2 l2 → wN X.K Wo D l2 cl dd τ J → wpAny (model X.prog X.w) X.A (handleBy (.ref q) X.env hs2) (SP X pins D) X.xe { t with heap := hp } := by
      intro hs2 l2 hk
      induction hk with
      | nil =>
        intro w
        refine wpAny_handleBy_nil ?_
        obtain ⟨_, _, _, o1, v1, T1, oT, u1, f1, f2, f3, f4, f5⟩ := id flp
        unfold PySem.passOn
        refine wpAny_bind (wpAny_field f1 f3 f4 ?_)
        rw [if_neg (show ¬ ((Value.ref T1 == Value.none) = true) from by simp)]
        have done_ : wpAny (model X.prog X.w) X.A (setFlight (.ref q) X.env.frame) (fun _ t4 => wpAny (model X.prog X.w) X.A (throw (.ref q) : Sem Flow) (SP X pins D) X.xe t4) X.xe { t with heap := hp } := by
          rw [hfr0]
          refine HandSPX.setFlight_upZ flp fun hp4 k4 up4 => wpAny_throw (tk _ _ ?_)
          exact ⟨q, Bq, sq, pins, τ, J, cl, dd, rfl, I1, nbq, (upq.trans upp).trans up4, .inr (.inr (hst ▸ k4)), naq, osq, agq, w⟩
        first
          | exact wpAny_bind (wpAny_pure (wpAny_bind done_))
          | exact wpAny_bind done_
      | @cons x c n i ts b₀ su np p hs3 l3 hc hn run r ih =>
        rintro ⟨b, eb, yes, no⟩
        refine wpAny_handleBy_cons (codeAny_handlers_test ?_) (fun z => nomatch z)
        have tyL : PySem.W.Looks (model X.prog X.w) hp (typeOf (.ref q)) cl := fun A' Q' E' t' keep' q' => wpAny_typeOf_ref (keep' _ _ eo) (by rw [zo.1]; exact q')
        have isL := PySem.W.exm_one (M := model X.prog X.w) I2.kIn tyL eb
        have named : ∀ {Q' : Value → Shared → Prop} {E' : Value → Shared → Prop}, Q' c { t with heap := hp } → wpAny (model X.prog X.w) (X.A.mark (some (.ref q))) (eval (.Name x np) X.env) Q' E' { t with heap := hp } := fun {Q' E'} z => by
          rcases hc with ⟨n1, n2, n3 | ⟨n3, n4, n5⟩⟩
          · exact ld_glob (X := X.suite q ((q, ob) :: (X.pn ++ pins))) I3 n1 n3 z n2
          · exact ld_blt (X := X.suite q ((q, ob) :: (X.pn ++ pins))) I3 n1 n3 n4 z n5 n2
        refine named (isL.here ?_)
        cases b with
        | false => exact ih (no rfl)
        | true =>
          have w := yes rfl q naq
          cases i with
          | none =>
            cases n with
            | some n => exact hn.elim
            | none =>
              refine codeAny_handlers_suite ?_
              refine HandSPX.lands_againZ flp fun hp4 fl4 up4 => ?_
              have I4 : Inv X pins τ J { t with heap := hp4 } := I1.landed nbq fl4.1 ((upq.trans upp).trans up4) osq agq
              obtain ⟨ob4, vs4, eo4, zo4, do4⟩ := fl4.there
              have I5 := I4.suite eo4 do4 naq notL notF
              refine wpAny_mono ((run q ob4 cl dd (X.pn ++ pins) zo4 ⟨_, do4⟩).run [] _ _ J _ I5 w) (fun fl t6 hsp => ?_) (fun _ _ z => False.elim z)
              cases fl with
              | next =>
                obtain ⟨σ6, J6, I6, q6⟩ := hsp
                exact ⟨σ6, J6, I6.unsuite okI, q6⟩
              | brk =>
                obtain ⟨σ6, J6, I6, q6⟩ := hsp
                exact ⟨σ6, J6, I6.unsuite okI, q6⟩
              | cont =>
                obtain ⟨σ6, J6, I6, q6⟩ := hsp
                exact ⟨σ6, J6, I6.unsuite okI, q6⟩
              | ret u =>
                obtain ⟨v6, σ6, J6, I6, r6, q6⟩ := hsp
                exact ⟨v6, σ6, J6, I6.unsuite okI, r6, q6⟩
          | some i =>
            cases n with
            | none => exact hn.elim
            | some n =>
              obtain ⟨hi, hln⟩ := hn
              have hloc : Loc X.env.scope n := .inl hln
              refine codeAny_handlers_suite_as ?_
              refine HandSPX.lands_againZ flp fun hp4 fl4 up4 => ?_
              have I4 : Inv X pins τ J { t with heap := hp4 } := I1.landed nbq fl4.1 ((upq.trans upp).trans up4) osq agq
              obtain ⟨ob4, vs4, eo4, zo4, do4⟩ := fl4.there
              have I5 := I4.suite eo4 do4 naq notL notF
              refine store_ok (X := X.suite q ((q, ob4) :: (X.pn ++ pins))) (v := .ref q) I5 hnd hi hloc rfl (fun t5 I6 => ?_) (.inr hln)
              refine wpAny_mono ((run q ob4 cl dd (X.pn ++ pins) zo4 ⟨_, do4⟩).run [] t5 _ J _ I6 w) (fun fl t6 hsp => ?_) (fun _ _ z => False.elim z)
              have end_ : ∀ {σ6 : L2.St} {J6 : Hp} {Q' : Shared → Prop}, Inv (X.suite q ((q, ob4) :: (X.pn ++ pins))) [] σ6 J6 t6 → (∀ t7, Inv X pins (σ6.set i none) J6 t7 → Q' t7) → wpAny (model X.prog X.w) X.A (do bindName X.env n .none; unbindBehindTheSuite X.env n p) (fun _ t7 => Q' t7) X.xe t6 :=
                fun {σ6 J6 Q'} S6 hq => gone_ok (S6.unsuite okI) hnd hi hln hq
              cases fl with
              | next =>
                obtain ⟨σ6, J6, I7, q6⟩ := hsp
                exact end_ I7 fun t7 I8 => ⟨_, _, I8, q6⟩
              | brk =>
                obtain ⟨σ6, J6, I7, q6⟩ := hsp
                exact end_ I7 fun t7 I8 => ⟨_, _, I8, q6⟩
              | cont =>
                obtain ⟨σ6, J6, I7, q6⟩ := hsp
                exact end_ I7 fun t7 I8 => ⟨_, _, I8, q6⟩
              | ret u =>
                obtain ⟨v6, σ6, J6, I7, r6, q6⟩ := hsp
                exact end_ I7 fun t7 I8 => ⟨_, _, _, I8, r6, q6⟩
    exact walk hh wq
  · cases fl with
    | next =>
      obtain ⟨σ', J', I', q⟩ := hsp
      exact wpAny_execs_nil ⟨σ', J', I'.ofTry okI, q⟩
    | brk =>
      obtain ⟨σ', J', I', q⟩ := hsp
      exact ⟨σ', J', I'.ofTry okI, q⟩
    | cont =>
      obtain ⟨σ', J', I', q⟩ := hsp
      exact ⟨σ', J', I'.ofTry okI, q⟩
    | ret u =>
      obtain ⟨v, σ', J', I', r, q⟩ := hsp
      exact ⟨v, σ', J', I'.ofTry okI, r, q⟩
end
end Y
end
section
set_option Elab.async false
set_option linter.all false
set_option maxRecDepth 100000
set_option maxHeartbeats 2000000
set_option autoImplicit false
/-! T2: the small language's try, its clauses named or not. -/
namespace Y
open PySem L2
variable {ad : Ad} {K : PySem.W.Frag} {G G' G1 G2 H H' H1 H2 : Hp}
/-- what a named clause's suite does -/
def suN (ad : Ad) (X : Cx) (P : Pt) (cf : Cf) (i : Nat) (is : List IS) : TsX := fun a cls d D σ H => ∃ (x : PX) (dd : Addr), cls = .ref (ad x.cls) ∧ d = some dd ∧ rdS ⟨ad.nm, some ⟨i, a, dd, x⟩⟩ X W0 ⟨i :: P.pr, σ⟩ (evB { cf with cur := some x } is) D σ H
def hdsN (ad : Ad) (X : Cx) (P : Pt) (cf : Cf) : IH → List (Value × Option Nat × TsX)
  | .nil => []
  | .cons k none is r => (.ref (ad k), none, fun _ _ _ => rdS ad X W0 P (evB cf is)) :: hdsN ad X P cf r
  | .cons k (some i) is r => (.ref (ad k), some i, suN ad X P cf i is) :: hdsN ad X P cf r
/-- the named slots are none of the protected ones -/
def freeN (pr : List Nat) : IH → Prop
  | .nil => True
  | .cons _ none _ r => freeN pr r
  | .cons _ (some i) _ r => i ∉ pr ∧ freeN pr r
section
variable {X : Cx} {W : WX} {P : Pt} {cf : Cf} {pos : Pos} {D : Ends}
theorem many_goN {x : PX} {dd : Addr} {σ' : St} {c c' : List Cell} (hcur : ad.cur = none) (kp' : P.kp σ') (st : Step G c H G' c' H') (hh' : Hold G' c' H') (hx : XRep ad X.K G' x dd) : ∀ {hs : IH} {ρ1 : Fr}, freeN P.pr hs → Slots ad X.K G' ρ1 σ' c' → AftS ad X.K W P D G c H (evH cf hs x ρ1) → wN X.K W D (hdsN ad X P cf hs) (.ref (ad x.cls)) (some dd) σ' H'
  | .nil, ρ1, _, sl', h => h dd σ' H' G' c' kp' st sl' hh' hx
  | .cons k none is r, ρ1, hn, sl', h => by
    simp only [evH] at h
    cases el : x.xd.rel.lookup k with
    | none => rw [el] at h; exact h.elim
    | some b =>
      rw [el] at h
      refine ⟨b, hx.elim fun _ z => z.2.2.1.rel _ _ el, fun eb a na => ?_, fun eb => ?_⟩
      · subst eb
        refine ⟨ρ1, G', c', kp', sl', hh', ?_⟩
        change AftS ad X.K W P D G c H (sufR none (evB cf is ρ1)) at h
        cases er : evB cf is ρ1 with
        | bad => rw [er] at h; exact h.elim
        | ex y ρ2 => rw [er] at h; exact h.elim
        | ok f ρ2 =>
          rw [er] at h
          have h2 : AftS ad X.K W P D G' c' H' (.ok f ρ2) := AftS.go h st hh'
          cases f <;> exact h2
      · subst eb
        exact many_goN hcur kp' st hh' hx hn sl' h
  | .cons k (some i) is r, ρ1, hn, sl', h => by
    simp only [evH] at h
    obtain ⟨hp, hn⟩ := hn
    have hx0 := hx
    obtain ⟨fvs, hG, hr, ho, hsub⟩ := hx
    cases el : x.xd.rel.lookup k with
    | none => rw [el] at h; exact h.elim
    | some b =>
      rw [el] at h
      refine ⟨b, ho.rel _ _ el, fun eb a na => ?_, fun eb => ?_⟩
      · subst eb
        dsimp only at h
        split at h
        · rename_i hfit
          obtain ⟨g, r2, s3, pm⟩ := sl'.b.drop i
          have s4 : Slots0 ⟨ad.nm, some ⟨i, a, dd, x⟩⟩ X.K G' (ρ1.set i none) (σ'.set i (some (.ref a))) r2 := Slots0.re (ad := ad) (ad' := ⟨ad.nm, some ⟨i, a, dd, x⟩⟩) rfl (s3.setN at_set_none)
          have hlt : i < σ'.length := by rw [← sl'.length]; exact of_decide_eq_true hfit
          refine ⟨x, dd, rfl, rfl, ρ1.set i none, G', r2, Keep.refl _ _, ⟨s4, ?_⟩, (hh'.perm pm).right, aft_suite h hcur hp kp' ((st.perm (List.Perm.refl _) pm).less fun z hz => List.mem_append_right _ hz) (hh'.perm pm).right⟩
          show XcOk _ _ _ _
          unfold XcOk
          exact ⟨List.getElem?_set_self hlt, fvs, hG, RepFs.re (ad := ad) (ad' := ad.base) rfl hr, XdOk.re (ad := ad) (ad' := ad.base) rfl ho, hsub⟩
        · exact h.elim
      · subst eb
        exact many_goN hcur kp' st hh' hx0 hn sl' h
theorem ss_tryN {body : List Stmt} {h₀ : ExceptHandler} {hds : List ExceptHandler} {ib : List IS} {ih : IH} (hs : X.stack = X.env :: X.outer) (hf : X.env.frame = some X.env.locals) (hnd : X.N.Nodup) (tk : Takes X W) (hcur : ad.cur = none) (hn : freeN P.pr ih)
    (hb : ∀ (W : WX) (pn : List (Addr × Obj)) (xe : Value → Shared → Prop), Takes (X.tr pn xe) W → PassesOwn (model X.prog X.w) X.A X.env xe → SB ad (X.tr pn xe) W P body (evB cf ib)) (hh : HdsN X (h₀ :: hds) (hdsN ad X P cf ih)) :
    SS ad X W P (.Try body (h₀ :: hds) [] [] pos) (evS cf (.tryx ib ih)) := by
  refine (ps_tryN (Wo := W) (tb := fun W => rdS ad X W P (evB cf ib)) hs hf hnd tk (fun W pn xe t p => hb W pn xe t p) hh).imp fun D σ H ⟨ρ, G, c, kp, sl, hh, h⟩ => ?_
  refine ⟨ρ, G, c, kp, sl, hh, ?_⟩
  simp only [evS] at h
  cases er : evB cf ib ρ with
  | bad => rw [er] at h; exact h
  | ok f ρ1 =>
    rw [er] at h
    cases f <;> exact h
  | ex x ρ1 =>
    rw [er] at h
    exact fun dd σ' H' G' c' kp' st sl' hh' hx => many_goN hcur kp' st hh' hx hn sl' h
end
end Y
end
section
set_option Elab.async false
set_option linter.all false
set_option maxRecDepth 100000
set_option maxHeartbeats 2000000
set_option autoImplicit false
/-! Y11: a def keeps what the evaluator says of it. -/
namespace Y
open PySem L2
variable {ad : Ad} {K : PySem.W.Frag} {G G' G1 G2 H H' H1 H2 : Hp}
theorem Slots0.take : ∀ (n : Nat) {ρ : Fr} {σ : St} {c : List Cell}, Slots0 ad K G ρ σ c → ∃ g c', Slots0 ad K G (ρ.take n) (σ.take n) c' ∧ c.Perm (g ++ c')
  | 0, _, _, c, _ => ⟨c, [], by simpa using Slots0.nil, by simp⟩
  | n + 1, _, _, _, .nil => ⟨[], [], .nil, List.Perm.refl _⟩
  | n + 1, _, _, _, .none t => by
    obtain ⟨g, c', h, e⟩ := Slots0.take n t
    exact ⟨g, c', .none h, e⟩
  | n + 1, _, _, _, .some (c := c) (cs := cs) r t => by
    obtain ⟨g, c', h, e⟩ := Slots0.take n t
    refine ⟨g, c ++ c', .some r h, ?_⟩
    refine (e.append_left c).trans ?_
    rw [← List.append_assoc, ← List.append_assoc]
    exact List.perm_append_comm.append_right c'
theorem maskF_nil (ls : List Bool) : maskF ls [] = [] := by cases ls <;> rfl
theorem maskF_cons (ls : List Bool) (x : Option PV) (r : Fr) : maskF ls (x :: r) = (if ls.headD false then x else none) :: maskF ls.tail r := by cases ls <;> rfl
theorem Slots0.mask : ∀ {ρ : Fr} {σ : St} {c : List Cell}, Slots0 ad K G ρ σ c → ∀ ls : List Bool, ∃ g c', Slots0 ad K G (maskF ls ρ) σ c' ∧ c.Perm (g ++ c')
  | _, _, _, .nil, ls => ⟨[], [], by rw [maskF_nil]; exact .nil, List.Perm.refl _⟩
  | _, _, _, .none t, ls => by
    obtain ⟨g, c', h, e⟩ := Slots0.mask t ls.tail
    rw [maskF_cons]
    refine ⟨g, c', ?_, e⟩
    rw [show (if ls.headD false = true then Option.none else Option.none) = (Option.none : Option PV) from by split <;> rfl]
    exact .none h
  | _, _, _, .some (c := c) (cs := cs) r t, ls => by
    obtain ⟨g, c', h, e⟩ := Slots0.mask t ls.tail
    rw [maskF_cons]
    cases ls.headD false with
    | true =>
      refine ⟨g, c ++ c', by rw [if_pos rfl]; exact .some r h, ?_⟩
      refine (e.append_left c).trans ?_
      rw [← List.append_assoc, ← List.append_assoc]
      exact List.perm_append_comm.append_right c'
    | false =>
      refine ⟨c ++ g, c', by rw [if_neg Bool.false_ne_true]; exact .none h, ?_⟩
      rw [List.append_assoc]
      exact e.append_left c
theorem maskF_at : ∀ {ρ : Fr} {ls : List Bool} {i : Nat} {p : PV}, Fr.at (maskF ls ρ) i = some p → ls.getD i false = true
  | [], ls, i, p, h => by rw [maskF_nil] at h; simp [Fr.at] at h
  | x :: r, [], 0, p, h => by rw [maskF_cons, at_cons_zero] at h; simp at h
  | x :: r, b :: bs, 0, p, h => by
    rw [maskF_cons, at_cons_zero] at h
    cases b with
    | true => rfl
    | false => simp at h
  | x :: r, [], i + 1, p, h => by
    rw [maskF_cons, at_cons_succ] at h
    have := maskF_at (ls := []) h
    simpa using this
  | x :: r, b :: bs, i + 1, p, h => by
    rw [maskF_cons, at_cons_succ] at h
    have := maskF_at (ls := bs) h
    simpa using this
theorem slots_none : ∀ n : Nat, Slots0 ad K G (List.replicate n none) (List.replicate n none) []
  | 0 => .nil
  | n + 1 => .none (slots_none n)
theorem slots_start : ∀ {ps : List PV} {vs : List V} {c : List Cell} (n : Nat), RepL ad K G ps vs c → Slots0 ad K G (ps.map some ++ List.replicate n none) (vs.map some ++ List.replicate n none) c
  | _, _, _, n, .nil => slots_none n
  | _, _, _, n, .cons r t => .some r (slots_start n t)
/-- the parameters that the def never stores -/
def protOf (d : Fd) : List Nat := (List.range d.ps).filter fun i => d.lend.getD i false
/-- the parameters' slots behind the body -/
theorem end_slots {d : Fd} {ρ : Fr} {σ σ0 : St} {c : List Cell} {vs : List V} (hv : vs.length = d.ps) (h0 : σ0 = vs.map some ++ List.replicate (d.n - d.ps) none) (kp : Keep (protOf d) σ0 σ) (sl : Slots0 ad K G ρ σ c) :
    ∃ g c', Slots0 ad K G (maskF d.lend (ρ.take d.ps)) (vs.map some) c' ∧ c.Perm (g ++ c') := by
  obtain ⟨g, c1, s1, p1⟩ := sl.take d.ps
  obtain ⟨g2, c2, s2, p2⟩ := s1.mask d.lend
  have hlen : σ.length = σ0.length := kp.len
  refine ⟨g ++ g2, c2, s2.congr ?_ fun i p e => ?_, ?_⟩
  · rw [List.length_map, List.length_take, hlen, h0, List.length_append, List.length_map, hv]
    omega
  · have hl := maskF_at e
    have hi : i < d.ps := by
      have h1 := at_lt e
      have h2 := s2.length
      rw [h2, List.length_take] at h1
      omega
    have hm : i ∈ protOf d := List.mem_filter.mpr ⟨List.mem_range.mpr hi, hl⟩
    have := kp.at_ i hm
    rw [List.getElem?_take_of_lt hi, this, h0, List.getElem?_append_left (by rw [List.length_map, hv]; exact hi)]
  · refine p1.trans ?_
    rw [List.append_assoc]
    exact p2.append_left g
section
variable {P : Program} {w : World} {mg : Str → Option Value} {base : Heap}
theorem runF_len {cf : Cf} {d : Fd} {as : List PV} (h : as.length ≠ d.ps) : runF cf d as = .bad := by unfold runF; rw [if_neg h]
/-- a def as the module's run has left it -/
structure FunE (K : PySem.W.Frag) (name qual : Str) (st : Stmt) (f : Addr) (fd : FuncData) : Prop where
  ex : ∃ (oc : Value) (od : Option Addr) (dV kV doc pm : Value) (an : Option Addr) (cdv ct : Value) (osl : Array (Option Value)),
    fd = PySem.W.fnOf name qual (defArgs st) (defBody st) (defScope st) dV kV doc pm an cdv ct ∧ K.lookup f = some ⟨oc, od, .func fd, osl⟩ ∧ PySem.W.codeIn K cdv qual = true
/-- a def's promise, by the evaluator's run of its body -/
theorem fn_run (hcur : ad.cur = none) {cf : Cf} {d : Fd} {x qual : Str} {st : Stmt} {f : Addr} {fd : FuncData} {N ps : List Str} {k : Nat} (F : FunE K x qual st f fd) (S : FnScope N ps (defScope st)) (hn : d.n = N.length) (hps : d.ps = ps.length)
    (hb : ∀ (X : Cx) (cdv : Value) (A : Around) (outer : List Env) (s : Shared) (H : Hp) (vs : List V) (E : XK), X = cxOf (L2.CX P w) P w K mg base N qual (defScope st) f cdv A outer s H E → Room k X.A → Takes X (fun cls d _ H => E cls d H) → PassesOwn (model X.prog X.w) X.A X.env X.xe →
      PSs X (defBody st) (rdS ad X (fun cls d _ H => E cls d H) ⟨protOf d, L2.start N vs⟩ (evB cf d.body))) : FnU P w K mg base (L2.CX P w) (k + 1) f fd ps (SpOf ad K (runF cf d)) := by
  have len : ∀ vs H Q E, SpOf ad K (runF cf d) vs H Q E → vs.length = ps.length := fun vs H Q E ⟨as, G, c, r, hh, a⟩ => by
    by_cases hl : as.length = d.ps
    · rw [← r.length, hl, hps]
    · rw [runF_len hl] at a
      exact a.elim
  obtain ⟨oc, od, dV, kV, doc, pm, an, cdv, ct, osl, rfl, lk, hcd⟩ := F.ex
  refine FnU.mk lk hcd S fun A outer s H vs Q E hr hsp => ?_
  have hl := len _ _ _ _ hsp
  obtain ⟨as, G, c, r, hh, a⟩ := hsp
  have hla : as.length = d.ps := by rw [r.length, hl, hps]
  refine ⟨_, hb _ cdv A outer s H vs E rfl hr (takes_of rfl rfl rfl rfl) (passes_of rfl), ?_⟩
  have h0 : L2.start N vs = vs.map some ++ List.replicate (d.n - d.ps) none := by
    rw [L2.start, hn, hps, hl]
  refine ⟨as.map some ++ List.replicate (d.n - d.ps) none, G, c, Keep.refl _ _, ⟨by rw [h0]; exact slots_start _ r, .of_none hcur⟩, hh, ?_⟩
  unfold runF at a
  rw [if_pos hla] at a
  cases e : evB cf d.body (as.map some ++ List.replicate (d.n - d.ps) none) with
  | bad => rw [e] at a; exact a.elim
  | ex y ρ =>
    rw [e] at a
    intro dd σ' H' G' c' kp s' sl h' hx
    obtain ⟨g, c2, s2, p2⟩ := end_slots (by rw [hl, hps]) h0 kp sl.b
    exact a dd H' G' c2 ((s'.perm (List.Perm.refl _) p2).less fun z hz => List.mem_append_right _ hz) s2 (h'.perm p2).right hx
  | ok f ρ =>
    rw [e] at a
    cases f with
    | bk => exact a.elim
    | ct => exact a.elim
    | nx =>
      intro σ' H' G' c' kp s' sl h'
      obtain ⟨g, c2, s2, p2⟩ := end_slots (by rw [hl, hps]) h0 kp sl.b
      exact a .non H' G' c2 [] (toL ((s'.perm (List.Perm.refl _) p2).less fun z hz => List.mem_append_right _ hz)) s2 (toH (h'.perm p2).right) .non
    | rt p =>
      intro v σ' H' G' c' t kp s' sl h' hr'
      obtain ⟨g, c2, s2, p2⟩ := end_slots (by rw [hl, hps]) h0 kp sl.b
      have p3 : (c' ++ t).Perm (g ++ (c2 ++ t)) := by
        rw [← List.append_assoc]
        exact p2.append_right t
      exact a v H' G' c2 t ((s'.perm (List.Perm.refl _) p3).less fun z hz => List.mem_append_right _ hz) s2 (h'.perm p3).right hr'
end
end Y
end
section
set_option Elab.async false
set_option linter.all false
set_option maxRecDepth 100000
set_option maxHeartbeats 4000000
set_option autoImplicit false
/-! Y12: a checker: does this expression of the text stand for that expression of the small language? -/
namespace Y
open PySem L2
/-- what a global name stands for -/
inductive GE where
  | fn (k : Str)
  | cst (p : PV)
  | xc (d : XD)
  | cl (k : CK)
/-- what the checker knows of a block -/
structure Sc where
  N : List Str
  scope : Scope
  fnS : Str → Bool
  gl : List (Str × GE)
  bl : List Str
  lend : Str → List Bool
  pr : List Nat
  /-- not within an except suite; the slot of the name of the exception that is held -/
  calm : Bool
  cur : Option Nat
  sig : Str → Option SgD
  cks : List CK
def GlOk (ad : Ad) (X : Cx) (cf : Cf) (cm : Bool) (x : Str) : GE → Prop
  | .fn k => X.mg x = some (.ref (ad k)) ∧ PySem.W.keepIn X.K (.ref (ad k)) = true
  | .cl k => X.mg x = some (.ref (ad k.cls)) ∧ CkOk ad.nm X.K k
  | .cst p => ∃ u v, X.mg x = some u ∧ RelV v u ∧ ∀ G, Rep ad X.K G p v []
  | .xc d => x = d.cls ∧ X.mg x = some (.ref (ad x)) ∧ XdOk ad X.K d ∧ (∃ k, cm = true → Room (k + 2) X.A) ∧ d.fs ≠ [] ∧ ∃ (fI cc cda : Addr) (B i newId : String) (bmB : List Value) (fd : FuncData) (body : List Stmt) (scope : Scope), EX.ExA X.prog X.K X.mg d.cls (ad d.cls) fI cc cda B i newId bmB fd d.fs [] body scope
structure Good (ad : Ad) (X : Cx) (W : WX) (cf : Cf) (sc : Sc) : Prop where
  hN : X.N = sc.N
  nd : X.N.Nodup
  hsc : X.env.scope = sc.scope
  hfn : ∀ x, sc.fnS x = true → X.fn x = true
  calm : sc.calm = true → X.calm = true ∧ ad.cur = none ∧ cf.cur = none
  held : ∀ i, sc.cur = some i → HeldAt ad X cf i
  hu : X.A.units + 65 < cLine
  tk : Takes X W
  blt : ∀ x ∈ sc.bl, X.mg x = none
  glob : ∀ x g, sc.gl.lookup x = some g → GlOk ad X cf sc.calm x g
  lend : cf.lend = sc.lend
  fns : ∀ k d, sc.sig k = some d → FnG ad X cf sc.calm k d
  ckm : ad.nm.cks = sc.cks
variable {ad : Ad}

/-! ### names -/
def visC (sc : Sc) (x : Str) : Bool := match sc.scope.names.lookup x with
  | some .local => true
  | some .cell => true
  | some .free => true
  | _ => false
def nameC (sc : Sc) (x : Str) (i : Nat) : Bool := decide (sc.N[i]? = some x) && visC sc x && !(x == ("__debug__" : Str)) && !(x == ("__classdict__" : Str))
def globC (sc : Sc) (x : Str) : Bool := decide (sc.scope.names.lookup x = some .globalImplicit) && !(x == ("__debug__" : Str)) && decide (x ≠ ("__name__" : Str))
def bltC (sc : Sc) (x : Str) (y : Str) : Bool := decide (x = y) && globC sc x && sc.bl.contains x
def plainE : Expr → Bool
  | .Starred _ _ => false
  | _ => true
def plainEs : List Expr → Bool
  | [] => true
  | e :: r => plainE e && plainEs r
/-- an expression whose test is its value's -/
def valueE : Expr → Bool
  | .Name _ _ => true
  | .Call _ _ _ _ => true
  | .Subscript _ _ _ => true
  | .Attribute _ _ _ => true
  | .Constant _ _ _ => true
  | .List _ _ => true
  | .Tuple _ _ _ => true
  | .ListComp _ _ _ _ => true
  | .BinOp _ _ _ _ => true
  | _ => false
theorem valueE_true {e : Expr} (h : valueE e = true) (env : Env) (whole : Sem Value) : isTrue e env whole = (do let v ← whole; standAt e.pos; holding [v] (truthy v)) := by
  cases e <;> first
    | rfl
    | cases h
theorem star_cons {e : Expr} {es : List Expr} (h : plainE e = true) (env : Env) : starEach (e :: es) env = (false, eval e env) :: starEach es env := by
  cases e <;> first
    | rfl
    | cases h
theorem back_plain {pos : Pos} {env : Env} : ∀ {es : List Expr}, plainEs es = true → (backTo pos (starEach es env)).any (·.1) = false
  | [], _ => rfl
  | e :: es, h => by
    unfold plainEs at h
    rw [Bool.and_eq_true] at h
    rw [star_cons h.1]
    have := back_plain (pos := pos) (env := env) h.2
    unfold backTo at this ⊢
    rw [List.map_cons, List.any_cons, this]
    rfl
theorem all_plain {pos : Pos} {env : Env} : ∀ {es : List Expr}, plainEs es = true → (backTo pos (starEach es env)).all (fun x => !x.1) = true
  | [], _ => rfl
  | e :: es, h => by
    unfold plainEs at h
    rw [Bool.and_eq_true] at h
    rw [star_cons h.1]
    have := all_plain (pos := pos) (env := env) h.2
    unfold backTo at this ⊢
    rw [List.map_cons, List.all_cons, this]
    rfl
section
variable {X : Cx} {W : WX} {cf : Cf} {sc : Sc} {pos : Pos}
theorem Good.vis (g : Good ad X W cf sc) {x : Str} (h : visC sc x = true) : Vis X.env.scope x := by
  rw [g.hsc]
  unfold visC at h
  split at h
  · exact .inl (by assumption)
  · exact .inr (.inl (by assumption))
  · exact .inr (.inr (by assumption))
  · cases h
theorem Good.name (g : Good ad X W cf sc) {x : Str} {i : Nat} (h : nameC sc x i = true) : PE X (.Name x pos) (tVar i) := by
  unfold nameC at h
  simp only [Bool.and_eq_true, decide_eq_true_eq, Bool.not_eq_true'] at h
  obtain ⟨⟨⟨h1, h2⟩, h3⟩, h4⟩ := h
  exact pe_var (by rw [g.hN]; exact h1) (g.vis h2) h3 h4
theorem Good.gl (g : Good ad X W cf sc) {x : Str} (h : globC sc x = true) : Gl X x ∧ (x == ("__debug__" : Str)) = false ∧ x ≠ ("__name__" : Str) := by
  unfold globC at h
  simp only [Bool.and_eq_true, decide_eq_true_eq, Bool.not_eq_true'] at h
  refine ⟨?_, h.1.2, h.2⟩
  show X.env.scope.names.lookup x = _
  rw [g.hsc]
  exact h.1.1
theorem Good.bt (g : Good ad X W cf sc) {x y : Str} (h : bltC sc x y = true) : x = y ∧ Gl X x ∧ X.mg x = none ∧ (x == ("__debug__" : Str)) = false ∧ x ≠ ("__name__" : Str) := by
  unfold bltC at h
  simp only [Bool.and_eq_true, decide_eq_true_eq] at h
  obtain ⟨h1, h2, h3⟩ := g.gl h.1.2
  exact ⟨h.1.1, h1, g.blt x (List.contains_iff_mem.mp h.2), h2, h3⟩
end
/-- what is claimed of a pair: as a value, as a test -/
def Snd (ad : Ad) : Bool → Sc → Expr → IE → Prop
  | false, sc, e, ie => ∀ X W cf, Good ad X W cf sc → SE ad X W e (evE cf ie)
  | true, sc, e, ie => ∀ X W cf, Good ad X W cf sc → ST ad X W e (evT cf ie (evE cf ie))
abbrev Rec := Bool → Sc → Expr → IE → Bool
abbrev RecOk (ad : Ad) (rec : Rec) : Prop := ∀ m sc e ie, rec m sc e ie = true → Snd ad m sc e ie

/-! ### constants -/
def tyNames : List String := ["int", "str", "bool", "list", "tuple"]
def cstC (sc : Sc) : Expr → PV → Bool
  | .Constant (.int i) _ _, .int j => decide (i = j)
  | .Constant (.bool i) _ _, .bl j => decide (i = j)
  | .Constant .none _ _, .non => true
  | .Constant (.str i) _ _, .str j => decide (i = j)
  | .Name x _, .ty t => tyNames.contains t && bltC sc x (Str.ofString t)
  | .Name x _, .int j => globC sc x && (match sc.gl.lookup x with
    | some (.cst (.int i)) => decide (i = j)
    | _ => false)
  | .Name x _, .str j => globC sc x && (match sc.gl.lookup x with
    | some (.cst (.str i)) => decide (i = j)
    | _ => false)
  | .Name x _, .fn k => globC sc x && (match sc.gl.lookup x with
    | some (.fn k') => decide (k = k')
    | _ => false)
  | .Name x _, .cl k => globC sc x && (match sc.gl.lookup x with
    | some (.cl k') => decide (k = k')
    | _ => false)
  | _, _ => false
theorem boot_ty : ∀ t ∈ tyNames, bootBuiltins (Str.ofString t) = some (.type t) := by decide +kernel
theorem cst_ok {sc : Sc} {e : Expr} {p : PV} (h : cstC sc e p = true) : Snd ad false sc e (.cst p) := fun X W cf g => by
  unfold cstC at h
  split at h
  · cases of_decide_eq_true h
    exact se_cst pe_int fun _ => .int _
  · cases of_decide_eq_true h
    exact se_cst pe_bl fun _ => .bl _
  · exact se_cst pe_non fun _ => .non
  · cases of_decide_eq_true h
    exact se_cst pe_str fun _ => .str _
  · rw [Bool.and_eq_true] at h
    obtain ⟨rfl, h1, h2, h3, h4⟩ := g.bt h.2
    exact se_cst (pe_bltn (v := .ty _) h1 h2 (boot_ty _ (List.contains_iff_mem.mp h.1)) rfl h4 h3) fun _ => .ty _
  · rw [Bool.and_eq_true] at h
    obtain ⟨h1, h2, h3⟩ := g.gl h.1
    have h := h.2
    split at h
    · rename_i i e
      cases of_decide_eq_true h
      obtain ⟨u, v, m, r, z⟩ := g.glob _ _ e
      exact se_cst (pe_glob h1 m r h2) z
    · cases h
  · rw [Bool.and_eq_true] at h
    obtain ⟨h1, h2, h3⟩ := g.gl h.1
    have h := h.2
    split at h
    · rename_i i e
      cases of_decide_eq_true h
      obtain ⟨u, v, m, r, z⟩ := g.glob _ _ e
      exact se_cst (pe_glob h1 m r h2) z
    · cases h
  · rw [Bool.and_eq_true] at h
    obtain ⟨h1, h2, h3⟩ := g.gl h.1
    have h := h.2
    split at h
    · rename_i i e
      cases of_decide_eq_true h
      obtain ⟨m, hk⟩ := g.glob _ _ e
      exact se_cst (pe_glob (v := .ref (ad _)) h1 m rfl h2) fun _ => .fn _
    · cases h
  · rw [Bool.and_eq_true] at h
    obtain ⟨h1, h2, h3⟩ := g.gl h.1
    have h := h.2
    split at h
    · rename_i i e
      cases of_decide_eq_true h
      obtain ⟨m, ck⟩ := g.glob _ _ e
      exact se_cst (pe_glob (v := .ref (ad _)) h1 m rfl h2) fun _ => .cl ck
    · cases h
  · cases h

/-! ### operands and lists -/
def opndC (rec : Rec) (sc : Sc) (e : Expr) : IE → Bool
  | .loc i => (match e with
    | .Name x _ => nameC sc x i
    | _ => false)
  | .it i k => (match e with
    | .Subscript (.Name x _) (.Constant (.int j) _ _) _ => nameC sc x i && decide (j = (k : Int))
    | _ => false)
  | ie => rec false sc e ie
theorem opnd_ok {rec : Rec} (hr : RecOk ad rec) {sc : Sc} {e : Expr} {ie : IE} (h : opndC rec sc e ie = true) {X : Cx} {W : WX} {cf : Cf} (g : Good ad X W cf sc) : SO ad X W e (opnd ie (evE cf ie)) := by
  by_cases hl : isLoc ie = true
  · cases ie with
    | loc i =>
      simp only [opndC] at h
      split at h
      · exact so_loc (g.name h)
      · cases h
    | it i k =>
      simp only [opndC] at h
      split at h
      · simp only [Bool.and_eq_true, decide_eq_true_eq] at h
        obtain ⟨h1, rfl⟩ := h
        exact so_it (pe_it (g.name h1) pe_int fun _ _ => rfl)
      · cases h
    | _ => cases hl
  · have hl : isLoc ie = false := by simpa using hl
    refine so_val hl ?_
    have h' : rec false sc e ie = true := by
      cases ie <;> first
        | exact h
        | cases hl
    exact hr _ _ _ _ h' X W cf g
def opndsC (rec : Rec) (sc : Sc) : List Expr → List IE → Bool
  | [], [] => true
  | e :: es, ie :: ies => plainE e && opndC rec sc e ie && opndsC rec sc es ies
  | _, _ => false
theorem opndsC_plain {rec : Rec} {sc : Sc} : ∀ {es : List Expr} {ies : List IE}, opndsC rec sc es ies = true → plainEs es = true
  | [], _, _ => rfl
  | e :: es, [], h => by cases h
  | e :: es, ie :: ies, h => by
    simp only [opndsC, Bool.and_eq_true] at h
    simp only [plainEs, Bool.and_eq_true]
    exact ⟨h.1.1, opndsC_plain h.2⟩
theorem opnds_ok {rec : Rec} (hr : RecOk ad rec) {sc : Sc} {X : Cx} {W : WX} {cf : Cf} (g : Good ad X W cf sc) : ∀ {es : List Expr} {ies : List IE}, opndsC rec sc es ies = true → SOs ad X W es (evO cf ies)
  | [], [], _ => sos_nil
  | [], _ :: _, h => by cases h
  | e :: es, [], h => by cases h
  | e :: es, ie :: ies, h => by
    simp only [opndsC, Bool.and_eq_true] at h
    exact sos_cons (opnd_ok hr h.1.2 g) (opnds_ok hr g h.2) (star_cons h.1.1 _)
def listC (rec : Rec) (sc : Sc) : List Expr → List IE → Bool
  | [], [] => true
  | e :: es, ie :: ies => plainE e && rec false sc e ie && listC rec sc es ies
  | _, _ => false
theorem list_ok {rec : Rec} (hr : RecOk ad rec) {sc : Sc} {X : Cx} {W : WX} {cf : Cf} (g : Good ad X W cf sc) : ∀ {es : List Expr} {ies : List IE}, listC rec sc es ies = true → SLs ad X W es (evL cf ies)
  | [], [], _ => sls_nil
  | [], _ :: _, h => by cases h
  | e :: es, [], h => by cases h
  | e :: es, ie :: ies, h => by
    simp only [listC, Bool.and_eq_true] at h
    exact sls_cons (hr _ _ _ _ h.1.2 X W cf g) (list_ok hr g h.2) (star_cons h.1.1 _)
def argC (rec : Rec) (sc : Sc) (ln : Bool) (e : Expr) : IE → Bool
  | .loc i => if ln then (match e with
    | .Name x _ => nameC sc x i
    | _ => false) else rec false sc e (.loc i)
  | .it _ _ => false
  | ie => rec false sc e ie
theorem arg_ok {rec : Rec} (hr : RecOk ad rec) {sc : Sc} {ln : Bool} {e : Expr} {ie : IE} (h : argC rec sc ln e ie = true) {X : Cx} {W : WX} {cf : Cf} (g : Good ad X W cf sc) : SO ad X W e (opA ln ie (evE cf ie)) := by
  refine so_opA (fun hb => ?_) fun hb => ?_
  · subst hb
    refine opnd_ok hr ?_ g
    cases ie <;> first
      | exact h
      | (simp only [argC, if_true] at h; exact h)
      | cases h
  · subst hb
    have h' : rec false sc e ie = true := by
      cases ie <;> first
        | exact h
        | cases h
    exact hr _ _ _ _ h' X W cf g
def argsC (rec : Rec) (sc : Sc) : List Bool → List Expr → List IE → Bool
  | _, [], [] => true
  | ls, e :: es, ie :: ies => plainE e && argC rec sc (ls.headD false) e ie && argsC rec sc ls.tail es ies
  | _, _, _ => false
theorem argsC_plain {rec : Rec} {sc : Sc} : ∀ {ls : List Bool} {es : List Expr} {ies : List IE}, argsC rec sc ls es ies = true → plainEs es = true
  | _, [], _, _ => rfl
  | _, e :: es, [], h => by cases h
  | ls, e :: es, ie :: ies, h => by
    simp only [argsC, Bool.and_eq_true] at h
    simp only [plainEs, Bool.and_eq_true]
    exact ⟨h.1.1, argsC_plain h.2⟩
theorem args_ok {rec : Rec} (hr : RecOk ad rec) {sc : Sc} {X : Cx} {W : WX} {cf : Cf} (g : Good ad X W cf sc) : ∀ {ls : List Bool} {es : List Expr} {ies : List IE}, argsC rec sc ls es ies = true → SAs ad X W es (evA cf ls ies)
  | _, [], [], _ => sas_nil
  | _, [], _ :: _, h => by cases h
  | _, e :: es, [], h => by cases h
  | ls, e :: es, ie :: ies, h => by
    simp only [argsC, Bool.and_eq_true] at h
    exact sas_cons (arg_ok hr h.1.2 g) (args_ok hr g h.2) (star_cons h.1.1 _)
/-! ### arguments of any form -/
def posC1 (rec : Rec) (sc : Sc) (ln : Bool) (ie : IE) (s : Bool) (e : Expr) : Bool := match s with
  | true => (match e with
    | .Starred x _ => rec false sc x ie
    | _ => false)
  | false => plainE e && argC rec sc ln e ie
theorem posC1_star {rec : Rec} {sc : Sc} {ln : Bool} {ie : IE} {e : Expr} (h : posC1 rec sc ln ie true e = true) : ∃ x p, e = .Starred x p ∧ rec false sc x ie = true := by
  cases e <;> first
    | exact ⟨_, _, rfl, h⟩
    | cases h
def posC (rec : Rec) (sc : Sc) : List Bool → List Bool → List Expr → List IE → Bool
  | _, _, [], [] => true
  | st, ls, e :: es, ie :: ies => posC1 rec sc (ls.headD false) ie (st.headD false) e && posC rec sc st.tail ls.tail es ies
  | _, _, _, _ => false
theorem posC_len {rec : Rec} {sc : Sc} : ∀ {st ls : List Bool} {es : List Expr} {ies : List IE}, posC rec sc st ls es ies = true → ies.length = es.length
  | _, _, [], [], _ => rfl
  | _, _, [], _ :: _, h => by cases h
  | _, _, _ :: _, [], h => by cases h
  | st, ls, e :: es, ie :: ies, h => by
    simp only [posC, Bool.and_eq_true] at h
    exact congrArg Nat.succ (posC_len h.2)
theorem pos_ok {rec : Rec} (hr : RecOk ad rec) {sc : Sc} {X : Cx} {W : WX} {cf : Cf} (g : Good ad X W cf sc) : ∀ {st ls : List Bool} {es : List Expr} {ies : List IE}, posC rec sc st ls es ies = true → SPs ad X W st es (evX cf st ls ies)
  | _, _, [], [], _ => sps_nil
  | _, _, [], _ :: _, h => by cases h
  | _, _, _ :: _, [], h => by cases h
  | st, ls, e :: es, ie :: ies, h => by
    simp only [posC, Bool.and_eq_true] at h
    have ih := pos_ok hr g h.2
    have h1 := h.1
    cases hs : st.headD false with
    | true =>
      rw [hs] at h1
      obtain ⟨x, p, rfl, h2⟩ := posC1_star h1
      exact sps_star hs (hr _ _ _ _ h2 X W cf g) ih
    | false =>
      rw [hs] at h1
      simp only [posC1, Bool.and_eq_true] at h1
      exact sps_cons hs (arg_ok hr h1.2 g) ih (star_cons h1.1 _)
def kwC (rec : Rec) (sc : Sc) : List Bool → List Keyword → List Str → List IE → Bool
  | _, [], [], [] => true
  | ls, ⟨some n', e, _⟩ :: kws, n :: ns, ie :: ies => decide (n' = n) && argC rec sc (ls.headD false) e ie && kwC rec sc ls.tail kws ns ies
  | _, _, _, _ => false
theorem kw_len {rec : Rec} {sc : Sc} : ∀ {ls : List Bool} {kws : List Keyword} {ns : List Str} {ies : List IE}, kwC rec sc ls kws ns ies = true → ies.length = ns.length
  | _, [], [], [], _ => rfl
  | ls, ⟨some n', e, _⟩ :: kws, n :: ns, ie :: ies, h => by
    simp only [kwC, Bool.and_eq_true] at h
    exact congrArg Nat.succ (kw_len h.2)
  | _, [], _ :: _, _, h => by simp [kwC] at h
  | _, [], [], _ :: _, h => by simp [kwC] at h
  | _, _ :: _, [], _, h => by simp [kwC] at h
  | _, _ :: _, _ :: _, [], h => by simp [kwC] at h
  | _, ⟨none, _, _⟩ :: _, _ :: _, _ :: _, h => by simp [kwC] at h
theorem kw_names {rec : Rec} {sc : Sc} {env : Env} : ∀ {ls : List Bool} {kws : List Keyword} {ns : List Str} {ies : List IE}, kwC rec sc ls kws ns ies = true → ∀ pos, (backToKw pos (keywordEach kws env)).all (·.1.isSome) = true ∧ (backToKw pos (keywordEach kws env)).filterMap (·.1) = ns
  | _, [], [], [], _, pos => ⟨rfl, rfl⟩
  | ls, ⟨some n', e, p⟩ :: kws, n :: ns, ie :: ies, h, pos => by
    simp only [kwC, Bool.and_eq_true, decide_eq_true_eq] at h
    obtain ⟨⟨h1, h2⟩, h3⟩ := h
    subst h1
    obtain ⟨i1, i2⟩ := kw_names (env := env) h3 pos
    unfold backToKw at i1 i2 ⊢
    unfold keywordEach
    simp only [List.map_cons, List.all_cons, List.filterMap_cons]
    exact ⟨by rw [i1]; rfl, by rw [i2]⟩
  | _, [], _ :: _, _, h, _ => by simp [kwC] at h
  | _, [], [], _ :: _, h, _ => by simp [kwC] at h
  | _, _ :: _, [], _, h, _ => by simp [kwC] at h
  | _, _ :: _, _ :: _, [], h, _ => by simp [kwC] at h
  | _, ⟨none, _, _⟩ :: _, _ :: _, _ :: _, h, _ => by simp [kwC] at h
theorem kw_ok {rec : Rec} (hr : RecOk ad rec) {sc : Sc} {X : Cx} {W : WX} {cf : Cf} (g : Good ad X W cf sc) : ∀ {st ls : List Bool} {kws : List Keyword} {ns : List Str} {ies : List IE}, st.all (fun b => !b) = true → kwC rec sc ls kws ns ies = true → PK X kws (rd ad X W (RelOs ad X.K) (evX cf st ls ies))
  | st, _, [], [], [], hs, _ => by
    refine ⟨fun pos pins s σ H Q I ⟨ρ, G, c, sl, hh, ha⟩ => wpAny_evalAll_nil ⟨[], H, I, .nil, ?_⟩⟩
    simp only [evX] at ha
    exact ha [] H G c [] (toL Step.refl) sl (toH hh) ⟨rfl, .nil⟩
  | st, ls, ⟨some n', e, p⟩ :: kws, n :: ns, ie :: ies, hs, h => by
    simp only [kwC, Bool.and_eq_true, decide_eq_true_eq] at h
    have hs1 : st.headD false = false := by
      cases st with
      | nil => rfl
      | cons b st =>
        simp only [List.all_cons, Bool.and_eq_true, Bool.not_eq_true'] at hs
        exact hs.1
    have hs2 : st.tail.all (fun b => !b) = true := by
      cases st with
      | nil => rfl
      | cons b st =>
        simp only [List.all_cons, Bool.and_eq_true] at hs
        exact hs.2
    have ih := kw_ok hr g hs2 h.2
    have k := pk_cons (nm := some n') (kpos := p) (arg_ok hr h.1.2 g) ih
    refine ⟨fun pos pins s σ H Q I hq => k.run pos pins s σ H Q I ?_⟩
    obtain ⟨ρ, G, c, sl, hh, ha⟩ := hq
    simp only [evX, hs1, starA] at ha
    refine ⟨ρ, G, c, sl, hh, ha.seq fun o ρ1 v H1 G1 c1 t s sl1 h1 ⟨et, hv⟩ k => ?_⟩
    subst et
    have k1 := k.go0 s h1
    refine ⟨ρ1, G1, c1, sl1, nilH h1, k1.seq fun os ρ2 vs H2 G2 c2 t2 s2 sl2 h2 ⟨et2, hv2⟩ k2 => ?_⟩
    subst et2
    exact k2 (v :: vs) H2 G2 c2 [] s2 sl2 h2 ⟨rfl, .cons (hv.mono s2.fz) hv2⟩
  | _, _, [], _ :: _, _, _, h => by simp [kwC] at h
  | _, _, [], [], _ :: _, _, h => by simp [kwC] at h
  | _, _, _ :: _, [], _, _, h => by simp [kwC] at h
  | _, _, _ :: _, _ :: _, [], _, h => by simp [kwC] at h
  | _, _, ⟨none, _, _⟩ :: _, _ :: _, _ :: _, _, h => by simp [kwC] at h
def kwNames : List Keyword → List Str
  | [] => []
  | ⟨some n, _, _⟩ :: r => n :: kwNames r
  | ⟨none, _, _⟩ :: r => kwNames r
def loneC : List Expr → Bool
  | [.Starred _ _] => true
  | _ => false
def argsXC (rec : Rec) (sc : Sc) (es : List Expr) (kws : List Keyword) (st ls : List Bool) (ies : List IE) : Bool :=
  posC rec sc st ls es (ies.take es.length) && kwC rec sc (ls.drop es.length) kws (kwNames kws) (ies.drop es.length) && (st.drop es.length).all (fun b => !b)
theorem notLone_of {es : List Expr} {env : Env} {pos : Pos} (h : loneC es = false) : notLone (backTo pos (starEach es env)) = true := by
  match es, h with
  | [], _ => rfl
  | [e], h =>
    have hp : plainE e = true := by
      cases e <;> first
        | rfl
        | cases h
    rw [star_cons hp]
    rfl
  | e :: e2 :: r, _ =>
    cases e <;> cases e2 <;> rfl
theorem argsX_ok {rec : Rec} (hr : RecOk ad rec) {sc : Sc} {X : Cx} {W : WX} {cf : Cf} (g : Good ad X W cf sc) {es : List Expr} {kws : List Keyword} {st ls : List Bool} {ies : List IE} (h : argsXC rec sc es kws st ls ies = true) :
    SQs ad X W es kws (kwNames kws) st es.length (evX cf st ls ies) ∧ ies.length = es.length + (kwNames kws).length ∧ ∀ pos, (backToKw pos (keywordEach kws X.env)).all (·.1.isSome) = true := by
  simp only [argsXC, Bool.and_eq_true] at h
  obtain ⟨⟨h1, h2⟩, h3⟩ := h
  have l1 := posC_len h1
  have l2 := kw_len h2
  have e : ies = ies.take es.length ++ ies.drop es.length := (List.take_append_drop _ _).symm
  have hk : SKs ad X W kws (kwNames kws) (evX cf (st.drop es.length) (ls.drop es.length) (ies.drop es.length)) := ⟨kw_ok hr g h3 h2, fun pos => kw_names h2 pos⟩
  refine ⟨?_, by rw [e, List.length_append, l1, l2], fun pos => (kw_names h2 pos).1⟩
  cases hl : loneC es with
  | false =>
    have z := sqs_mk (st := st) (ls := ls) (pos_ok hr g h1) (by rw [l1]; exact hk) l2 fun pos => notLone_of hl
    rw [l1] at z
    rw [e]
    exact z
  | true =>
    match es, hl with
    | [.Starred x p], _ =>
      simp only [List.length_singleton] at *
      match ies, l1 with
      | a :: ks, _ =>
        simp only [List.take_succ_cons, List.take_zero, posC, Bool.and_eq_true] at h1
        have h1 := h1.1
        cases hs : st.headD false with
        | true =>
          rw [hs] at h1
          have e1 : st.tail = st.drop 1 := by cases st <;> rfl
          have e2 : ls.tail = ls.drop 1 := by cases ls <;> rfl
          exact sqs_lone hs (hr _ _ _ _ h1 X W cf g) (by rw [e1, e2]; exact hk) l2
        | false =>
          rw [hs] at h1
          simp [posC1, plainE] at h1
end Y
end
section
set_option Elab.async false
set_option linter.all false
set_option maxRecDepth 100000
set_option maxHeartbeats 4000000
set_option autoImplicit false
/-! Y13: the checker: operations, targets, what is walked. -/
namespace Y
open PySem L2
variable {ad : Ad} {K : PySem.W.Frag} {G G' G1 G2 H H' H1 H2 : Hp}
section
variable {X : Cx} {W : WX} {cf : Cf} {sc : Sc} {rec : Rec}
/-! ### operations -/
def binC (rec : Rec) (sc : Sc) (o : Operator) (e : Expr) (es : List IE) : Bool := match e, es with
  | .BinOp a o' b _, [x, y] => decide (o = o') && opndC rec sc a x && opndC rec sc b y
  | _, _ => false
theorem bin_ok (hr : RecOk ad rec) {o : Operator} {e : Expr} {es : List IE} (h : binC rec sc o e es = true) (g : Good ad X W cf sc) : SE ad X W e (evE cf (.op (.bin o) es)) := by
  unfold binC at h
  split at h
  · simp only [Bool.and_eq_true, decide_eq_true_eq] at h
    obtain ⟨⟨rfl, h1⟩, h2⟩ := h
    exact (pe_op (op_bin o) (opnd_ok hr h1 g) (opnd_ok hr h2 g)).imp fun _ _ _ q => rd_op2 q
  · cases h
def cmpC (rec : Rec) (sc : Sc) (o : CmpOp) (e : Expr) (es : List IE) : Bool := match e, es with
  | .Compare a [o'] [b] _, [x, y] => decide (o = o') && !behindInMarks o b && opndC rec sc a x && opndC rec sc b y
  | _, _ => false
theorem cmp_ok (hr : RecOk ad rec) {o : CmpOp} {e : Expr} {es : List IE} (h : cmpC rec sc o e es = true) (g : Good ad X W cf sc) : SE ad X W e (evE cf (.op (.cmp o) es)) := by
  unfold cmpC at h
  split at h
  · simp only [Bool.and_eq_true, decide_eq_true_eq, Bool.not_eq_true'] at h
    obtain ⟨⟨⟨rfl, h0⟩, h1⟩, h2⟩ := h
    exact (pe_cmpR (op_cmpN g.hu o) (opnd_ok hr h1 g) (opnd_ok hr h2 g) h0).imp fun _ _ _ q => rd_op2 q
  · cases h
/-- .. as a test -/
theorem cmp_okT (hr : RecOk ad rec) {o : CmpOp} {e : Expr} {es : List IE} (h : cmpC rec sc o e es = true) (g : Good ad X W cf sc) : ST ad X W e (evT cf (.op (.cmp o) es) (evE cf (.op (.cmp o) es))) := by
  unfold cmpC at h
  split at h
  · simp only [Bool.and_eq_true, decide_eq_true_eq, Bool.not_eq_true'] at h
    obtain ⟨⟨⟨rfl, h0⟩, h1⟩, h2⟩ := h
    exact (pt_cmpR (op_cmpN g.hu o) (opnd_ok hr h1 g) (opnd_ok hr h2 g) h0).imp fun _ _ _ q => rd_op2 (rd_asB (by simpa only [evT] using q))
  · cases h
def negC (rec : Rec) (sc : Sc) (e : Expr) (es : List IE) : Bool := match e, es with
  | .UnaryOp .USub a _, [x] => opndC rec sc a x
  | _, _ => false
theorem neg_ok (hr : RecOk ad rec) {e : Expr} {es : List IE} (h : negC rec sc e es = true) (g : Good ad X W cf sc) : SE ad X W e (evE cf (.op .neg es)) := by
  unfold negC at h
  split at h
  · refine (pe_un un_neg (opnd_ok hr h g)).imp fun _ _ _ q => rd_imp (rd_op1 q) fun v H1 q => ?_
    obtain ⟨p, G, c, r, vp, hh, e, k⟩ := rn1 (c := []) q
    cases p with
    | int i =>
      cases e
      exact ⟨i, vp.int, done0 hh k (.int _)⟩
    | _ => cases e
  · cases h
def notC (rec : Rec) (sc : Sc) (e : Expr) (es : List IE) : Bool := match e, es with
  | .UnaryOp .Not a _, [x] => opndC rec sc a x
  | _, _ => false
theorem not_ok (hr : RecOk ad rec) {e : Expr} {es : List IE} (h : notC rec sc e es = true) (g : Good ad X W cf sc) : SE ad X W e (evE cf (.op .not es)) := by
  unfold notC at h
  split at h
  · refine (pe_not (opnd_ok hr h g)).imp fun _ _ _ q => rd_imp (rd_op1 q) fun v H1 q => ?_
    obtain ⟨p, G, c, r, vp, hh, e, k⟩ := rn1 (c := []) q
    cases p with
    | bl i =>
      cases e
      exact ⟨i, vp.bl, done0 hh k (.bl _)⟩
    | _ => cases e
  · cases h
def plainIxE : Expr → Bool
  | .Slice _ _ _ _ => false
  | _ => true
theorem plainIxE_ok {e : Expr} (h : plainIxE e = true) : PlainIx e := by
  cases e <;> first
    | exact fun _ _ => rfl
    | cases h
def ixC (rec : Rec) (sc : Sc) (e : Expr) (es : List IE) : Bool := match e, es with
  | .Subscript a b _, [x, y] => plainIxE b && opndC rec sc a x && opndC rec sc b y
  | _, _ => false
theorem ix_ok (hr : RecOk ad rec) {e : Expr} {es : List IE} (h : ixC rec sc e es = true) (g : Good ad X W cf sc) : SE ad X W e (evE cf (.op .ix es)) := by
  unfold ixC at h
  split at h
  · simp only [Bool.and_eq_true] at h
    obtain ⟨⟨h0, h1⟩, h2⟩ := h
    exact (pe_ix op_ixN (opnd_ok hr h1 g) (opnd_ok hr h2 g) (plainIxE_ok h0)).imp fun _ _ _ q => rd_op2 q
  · cases h
def sliceC (rec : Rec) (sc : Sc) (lo hi : Bool) (e : Expr) (es : List IE) : Bool := match lo, hi, e, es with
  | false, false, .Subscript a (.Slice none none none _) _, [x] => opndC rec sc a x
  | true, false, .Subscript a (.Slice (some b) none none _) _, [x, y] => opndC rec sc a x && opndC rec sc b y
  | false, true, .Subscript a (.Slice none (some b) none _) _, [x, y] => opndC rec sc a x && opndC rec sc b y
  | _, _, _, _ => false
theorem slice_ok (hr : RecOk ad rec) {lo hi : Bool} {e : Expr} {es : List IE} (h : sliceC rec sc lo hi e es = true) (g : Good ad X W cf sc) : SE ad X W e (evE cf (.op (.slice lo hi) es)) := by
  unfold sliceC at h
  split at h
  · exact se_slice0 (opnd_ok hr h g)
  · rw [Bool.and_eq_true] at h
    exact se_slice1 (opnd_ok hr h.1 g) (opnd_ok hr h.2 g)
  · rw [Bool.and_eq_true] at h
    exact se_slice2 (opnd_ok hr h.1 g) (opnd_ok hr h.2 g)
  · cases h
def backC (rec : Rec) (sc : Sc) (e : Expr) (es : List IE) : Bool := match e, es with
  | .Subscript a (.Slice none none (some (.UnaryOp .USub (.Constant (.int i) _ _) _)) _) _, [x] => decide (i = 1) && opndC rec sc a x
  | _, _ => false
theorem back_ok (hr : RecOk ad rec) {e : Expr} {es : List IE} (h : backC rec sc e es = true) (g : Good ad X W cf sc) : SE ad X W e (evE cf (.op .back es)) := by
  unfold backC at h
  split at h
  · simp only [Bool.and_eq_true, decide_eq_true_eq] at h
    obtain ⟨rfl, h⟩ := h
    exact se_back (opnd_ok hr h g)
  · cases h
/-- f(e, ..), f built in -/
def bltCallC (rec : Rec) (sc : Sc) (y : String) (e : Expr) (es : List IE) : Bool := match e with
  | .Call (.Name x _) (a :: as) [] _ => bltC sc x (Str.ofString y) && opndsC rec sc (a :: as) es
  | _ => false
theorem bltCall_ok (hr : RecOk ad rec) {y : String} {f : Op} {e : Expr} {es : List IE} (h : bltCallC rec sc y e es = true) (g : Good ad X W cf sc)
    (hc : (∃ id, bootBuiltins (Str.ofString y) = some (.builtin id) ∧ CallR X (.builtin id) fun xs H Q => RN ad X.K (opN f) xs H Q) ∨ (∃ id, bootBuiltins (Str.ofString y) = some (.type id) ∧ CallR X (.type id) fun xs H Q => RN ad X.K (opN f) xs H Q)) : SE ad X W e (evE cf (.op f es)) := by
  unfold bltCallC at h
  split at h
  · rw [Bool.and_eq_true] at h
    obtain ⟨rfl, h1, h2, h3, h4⟩ := g.bt h.1
    have hp := opndsC_plain h.2
    simp only [plainEs, Bool.and_eq_true] at hp
    have ha := opnds_ok (W := W) hr g h.2
    rcases hc with ⟨id, hb, hc⟩ | ⟨id, hb, hc⟩
    · exact (pe_callB hc h1 h2 hb ha h4 h3 (star_cons hp.1 _) (back_plain hp.2)).imp fun _ _ _ q => rd_op q
    · exact (pe_callTy hc h1 h2 hb ha h4 h3 (star_cons hp.1 _) (back_plain hp.2)).imp fun _ _ _ q => rd_op q
  · cases h
/-- 'sep'.join(e) -/
def joinC (rec : Rec) (sc : Sc) (e : Expr) (es : List IE) : Bool := match e, es with
  | .Call (.Attribute (.Constant (.str z) _ _) name apos) [a] [] cpos, [.cst (.str z'), x] => decide (name = ("join" : Str)) && decide (z = z') && (apos.endLine == cpos.line) && opndsC rec sc [a] [x]
  | _, _ => false
theorem rd_os_cst {z : Str} {es : List IE} {σ : St} {H : Hp} {Q : List V → Hp → Prop} (h : rd ad X W (RelOs ad X.K) (evO cf (.cst (.str z) :: es)) σ H Q) : rd ad X W (RelOs ad X.K) (evO cf es) σ H fun xs H1 => Q (.str z :: xs) H1 := by
  obtain ⟨ρ, G, c, sl, hh, ha⟩ := h
  simp only [evO, opnd, evE, Res.bind, PV.frz] at ha
  refine ⟨ρ, G, c, sl, hh, ?_⟩
  cases e : evO cf es ρ with
  | bad => rw [e] at ha; exact ha
  | ex x r => rw [e] at ha; exact ha
  | ok os ρ1 =>
    rw [e] at ha
    exact fun v H1 G1 c1 t s sl1 h1 ⟨et, hv⟩ => ha _ H1 G1 c1 t s sl1 h1 ⟨et, .cons (.str z) hv⟩
theorem join_ok (hr : RecOk ad rec) {e : Expr} {es : List IE} (h : joinC rec sc e es = true) (g : Good ad X W cf sc) : SE ad X W e (evE cf (.op .join es)) := by
  unfold joinC at h
  split at h
  · simp only [Bool.and_eq_true, decide_eq_true_eq] at h
    obtain ⟨⟨⟨rfl, rfl⟩, hl⟩, h⟩ := h
    have hp := opndsC_plain h
    simp only [plainEs, Bool.and_eq_true] at hp
    have ha := opnds_ok (W := W) hr g h
    refine (pe_bm PySem.F.plainAttrs_str PySem.F.slot_str_join PySem.F.type_str_join (mtN_join (ad := ad)) pe_str ha rfl ?_ hl (star_cons hp.1 _) rfl).imp fun _ _ _ q => ?_
    · rw [all_plain (by simp [plainEs, hp.1])]
      rfl
    · exact ⟨rfl, rd_os_cst (rd_op q)⟩
  · cases h
/-! ### targets -/
def locC (sc : Sc) (x : Str) : Bool := match sc.scope.names.lookup x with
  | some .local => true
  | some .cell => sc.fnS x
  | _ => false
def tgC : Nat → Sc → Expr → IT → Bool
  | 0, _, _, _ => false
  | n + 1, sc, e, t => (match e, t with
    | .Name x _, .nm i => decide (sc.N[i]? = some x) && locC sc x
    | .Tuple es _ _, .tp ts => tgsC (tgC n) sc es ts
    | _, _ => false)
where tgsC (rec : Sc → Expr → IT → Bool) (sc : Sc) : List Expr → List IT → Bool
  | [], [] => true
  | e :: es, t :: ts => plainE e && rec sc e t && tgsC rec sc es ts
  | _, _ => false
theorem Good.loc (g : Good ad X W cf sc) {x : Str} (h : locC sc x = true) : Loc X.env.scope x ∧ (X.fn x = true ∨ X.env.scope.names.lookup x = some .local) := by
  rw [g.hsc]
  unfold locC at h
  split at h
  · exact ⟨.inl (by assumption), .inr (by assumption)⟩
  · exact ⟨.inr (by assumption), .inl (g.hfn _ h)⟩
  · cases h
theorem assign_cons {e : Expr} {es : List Expr} (h : plainE e = true) (env : Env) : assignEach (e :: es) env = (false, assign e env) :: assignEach es env := by
  cases e <;> first
    | rfl
    | cases h
theorem tgs_plain {r : Sc → Expr → IT → Bool} : ∀ {es : List Expr} {ts : List IT}, tgC.tgsC r sc es ts = true → (∀ env, (assignEach es env).length = ts.length ∧ (assignEach es env).findIdx? (·.1) = none)
  | [], [], _ => fun _ => ⟨rfl, rfl⟩
  | [], _ :: _, h => by cases h
  | _ :: _, [], h => by cases h
  | e :: es, t :: ts, h => fun env => by
    simp only [tgC.tgsC, Bool.and_eq_true] at h
    obtain ⟨h1, h2⟩ := tgs_plain h.2 env
    rw [assign_cons h.1.1]
    simp [h1, h2, List.findIdx?_cons]
theorem tg_ok (g : Good ad X W cf sc) (hc : sc.calm = true) : ∀ (n : Nat) {e : Expr} {t : IT}, tgC n sc e t = true → PG X e (rdG ad X t)
  | 0, _, _, h => by cases h
  | n + 1, e, t, h => by
    unfold tgC at h
    split at h
    · simp only [Bool.and_eq_true, decide_eq_true_eq] at h
      obtain ⟨h1, h2⟩ := g.loc h.2
      exact sg_nm (.of_none (g.calm hc).2.1) (pg_name g.nd (by rw [g.hN]; exact h.1) h1 h2)
    · have key : ∀ {es : List Expr} {ts : List IT}, tgC.tgsC (tgC n) sc es ts = true → PGs X es (rdGs ad X ts) := by
        intro es
        induction es with
        | nil =>
          intro ts h
          cases ts with
          | nil => exact sgs_nil
          | cons => cases h
        | cons e es ih =>
          intro ts h
          cases ts with
          | nil => cases h
          | cons t ts =>
            simp only [tgC.tgsC, Bool.and_eq_true] at h
            exact sgs_cons (tg_ok g hc n h.1.2) (ih h.2) (by rw [assign_cons h.1.1]; rfl)
      have hp := tgs_plain h X.env
      exact sg_tp (g.calm hc).1 (key h) hp.1 hp.2
    · cases h
/-! ### what is walked -/
def notSet : Expr → Bool
  | .Set _ _ _ => false
  | _ => true
theorem notSet_ok {e : Expr} (h : notSet e = true) (env : Env) (x : Value) : foldedSetIterable e env x = pure x := by
  cases e <;> first
    | rfl
    | cases h
def isTup : Expr → Bool
  | .Tuple _ _ _ => true
  | _ => false
def srcC (rec : Rec) (sc : Sc) (tg it : Expr) : ISrc → Bool
  | .it e => rec false sc it e
  | .rng es => (match it, es with
    | .Call (.Name x _) [a] [] _, [e] => bltC sc x ("range" : Str) && opndsC rec sc [a] [e]
    | .Call (.Name x _) [a, b] [] _, [e, f] => bltC sc x ("range" : Str) && opndsC rec sc [a, b] [e, f]
    | _, _ => false)
  | .enm e => (match it with
    | .Call (.Name x _) [a] [] _ => bltC sc x ("enumerate" : Str) && isTup tg && plainE a && rec false sc a e
    | _ => false)
  | .zp e f => (match it with
    | .Call (.Name x _) [a, b] [] _ => bltC sc x ("zip" : Str) && isTup tg && plainE a && plainE b && rec false sc a e && rec false sc b f
    | _ => false)
theorem star1 {a : Expr} (h : plainE a = true) (env : Env) : starEach [a] env = [(false, eval a env)] := star_cons h env
theorem star2 {a b : Expr} (h : plainE a = true) (h2 : plainE b = true) (env : Env) : starEach [a, b] env = [(false, eval a env), (false, eval b env)] := by
  rw [star_cons h, star1 h2]
theorem src_ok (hr : RecOk ad rec) {tg it : Expr} {src : ISrc} (h : srcC rec sc tg it src = true) (g : Good ad X W cf sc) : SI ad X W tg it (evSrc cf src) := by
  cases src with
  | it e => exact si_it (hr _ _ _ _ h X W cf g)
  | rng es =>
    simp only [srcC] at h
    split at h
    · rw [Bool.and_eq_true] at h
      obtain ⟨rfl, h1, h2, h3, h4⟩ := g.bt h.1
      have hp := opndsC_plain h.2
      simp only [plainEs, Bool.and_eq_true] at hp
      exact si_rng1 h1 h2 (opnds_ok hr g h.2) (star1 hp.1 _)
    · rw [Bool.and_eq_true] at h
      obtain ⟨rfl, h1, h2, h3, h4⟩ := g.bt h.1
      have hp := opndsC_plain h.2
      simp only [plainEs, Bool.and_eq_true] at hp
      exact si_rng2 h1 h2 (opnds_ok hr g h.2) (star2 hp.1 hp.2.1 _) (star1 hp.2.1 _)
    · cases h
  | enm e =>
    simp only [srcC] at h
    split at h
    · simp only [Bool.and_eq_true] at h
      obtain ⟨⟨⟨hb, ht⟩, hp⟩, h⟩ := h
      obtain ⟨rfl, h1, h2, h3, h4⟩ := g.bt hb
      cases tg with
      | Tuple elts k p => exact si_enm h1 h2 (hr _ _ _ _ h X W cf g) (star1 hp _)
      | _ => cases ht
    · cases h
  | zp e f =>
    simp only [srcC] at h
    split at h
    · simp only [Bool.and_eq_true] at h
      obtain ⟨⟨⟨⟨⟨hb, ht⟩, hp⟩, hp2⟩, h⟩, h'⟩ := h
      obtain ⟨rfl, h1, h2, h3, h4⟩ := g.bt hb
      cases tg with
      | Tuple elts k p => exact si_zip h1 h2 (hr _ _ _ _ h X W cf g) (hr _ _ _ _ h' X W cf g) (star2 hp hp2 _) (star1 hp2 _)
      | _ => cases ht
    · cases h
end
end Y
end
section
set_option Elab.async false
set_option linter.all false
set_option maxRecDepth 100000
set_option maxHeartbeats 4000000
set_option autoImplicit false
/-! Y14: the checker: expressions, whole. -/
namespace Y
open PySem L2
variable {ad : Ad} {K : PySem.W.Frag} {G G' G1 G2 H H' H1 H2 : Hp}
theorem bf_len : bootBuiltins (Str.ofString "len") = some (.builtin "len") := by decide +kernel
theorem bf_list : bootBuiltins (Str.ofString "list") = some (.type "list") := by decide +kernel
theorem bf_tuple : bootBuiltins (Str.ofString "tuple") = some (.type "tuple") := by decide +kernel
theorem bf_int : bootBuiltins (Str.ofString "int") = some (.type "int") := by decide +kernel
theorem bf_str : bootBuiltins (Str.ofString "str") = some (.type "str") := by decide +kernel
theorem bf_all : bootBuiltins (Str.ofString "all") = some (.builtin "all") := by decide +kernel
theorem bf_any : bootBuiltins (Str.ofString "any") = some (.builtin "any") := by decide +kernel
theorem bf_sum : bootBuiltins (Str.ofString "sum") = some (.builtin "sum") := by decide +kernel
theorem bf_max : bootBuiltins (Str.ofString "max") = some (.builtin "max") := by decide +kernel
theorem bf_min : bootBuiltins (Str.ofString "min") = some (.builtin "min") := by decide +kernel
theorem bf_sorted : bootBuiltins (Str.ofString "sorted") = some (.builtin "sorted") := by decide +kernel
theorem bf_isi : bootBuiltins (Str.ofString "isinstance") = some (.builtin "isinstance") := by decide +kernel
section
variable {X : Cx} {W : WX} {cf : Cf} {sc : Sc} {rec : Rec} {pos : Pos}
def opC (rec : Rec) (sc : Sc) (e : Expr) (es : List IE) : Op → Bool
  | .bin o => binC rec sc o e es
  | .cmp o => cmpC rec sc o e es
  | .neg => negC rec sc e es
  | .not => notC rec sc e es
  | .ix => ixC rec sc e es
  | .slice lo hi => sliceC rec sc lo hi e es
  | .back => backC rec sc e es
  | .len => bltCallC rec sc "len" e es
  | .list => bltCallC rec sc "list" e es
  | .tuple => bltCallC rec sc "tuple" e es
  | .int => bltCallC rec sc "int" e es
  | .str => bltCallC rec sc "str" e es
  | .all => sc.calm && bltCallC rec sc "all" e es
  | .any => sc.calm && bltCallC rec sc "any" e es
  | .sum => sc.calm && bltCallC rec sc "sum" e es
  | .max => sc.calm && bltCallC rec sc "max" e es
  | .sorted => bltCallC rec sc "sorted" e es
  | .isi => bltCallC rec sc "isinstance" e es
  | .join => joinC rec sc e es
  | .split => false
  | .min2 => sc.calm && bltCallC rec sc "min" e es
  | .isk => bltCallC rec sc "isinstance" e es
  | .index => false
  | .sset => false
  | .lset => false
  | .maxd => false
theorem op_ok (hr : RecOk ad rec) {f : Op} {e : Expr} {es : List IE} (h : opC rec sc e es f = true) (g : Good ad X W cf sc) : SE ad X W e (evE cf (.op f es)) := by
  cases f with
  | bin o => exact bin_ok hr h g
  | cmp o => exact cmp_ok hr h g
  | neg => exact neg_ok hr h g
  | not => exact not_ok hr h g
  | ix => exact ix_ok hr h g
  | slice lo hi => exact slice_ok hr h g
  | back => exact back_ok hr h g
  | len => exact bltCall_ok hr h g (.inl ⟨_, bf_len, callN_len⟩)
  | list => exact bltCall_ok hr h g (.inr ⟨_, bf_list, callN_list⟩)
  | tuple => exact bltCall_ok hr h g (.inr ⟨_, bf_tuple, callN_tuple⟩)
  | int => exact bltCall_ok hr h g (.inr ⟨_, bf_int, callN_int⟩)
  | str => exact bltCall_ok hr h g (.inr ⟨_, bf_str, callN_str⟩)
  | all =>
    rw [opC, Bool.and_eq_true] at h
    exact bltCall_ok hr h.2 g (.inl ⟨_, bf_all, callN_all (g.calm h.1).1⟩)
  | any =>
    rw [opC, Bool.and_eq_true] at h
    exact bltCall_ok hr h.2 g (.inl ⟨_, bf_any, callN_any (g.calm h.1).1⟩)
  | sum =>
    rw [opC, Bool.and_eq_true] at h
    exact bltCall_ok hr h.2 g (.inl ⟨_, bf_sum, callN_sum (g.calm h.1).1⟩)
  | max =>
    rw [opC, Bool.and_eq_true] at h
    exact bltCall_ok hr h.2 g (.inl ⟨_, bf_max, callN_max (g.calm h.1).1⟩)
  | sorted => exact bltCall_ok hr h g (.inl ⟨_, bf_sorted, callN_sorted g.hu⟩)
  | isi => exact bltCall_ok hr h g (.inl ⟨_, bf_isi, callN_isi⟩)
  | join => exact join_ok hr h g
  | split => cases h
  | min2 =>
    rw [opC, Bool.and_eq_true] at h
    exact bltCall_ok hr h.2 g (.inl ⟨_, bf_min, callN_min2 (g.calm h.1).1⟩)
  | isk => exact bltCall_ok hr h g (.inl ⟨_, bf_isi, callN_isk⟩)
  | index => cases h
  | sset => cases h
  | lset => cases h
  | maxd => cases h
/-- a.index(b) -/
theorem se_lidx {o a : Expr} {ia ib : IE} {apos : Pos} (hu : X.A.units + 65 < cLine) (ho : SE ad X W o (evE cf ia)) (ha : SE ad X W a (evE cf ib)) (hb : attributeBase o "index" X.env (eval o X.env) = eval o X.env) (hp : plainE a = true) (hl : (apos.endLine == pos.line) = true) :
    SE ad X W (.Call (.Attribute o "index" apos) [a] [] pos) (evE cf (.lidx ia ib)) := by
  refine (pe_bm PySem.F.plainAttrs_list PySem.F.slot_list_index PySem.F.type_list_index (mt_idx hu) ho (pa_cons ha pa_nil (star_cons hp _)) hb ?_ hl (star_cons hp _) rfl).imp fun σ H Q hq => ?_
  · rw [all_plain (by simp [plainEs, hp])]
    rfl
  · obtain ⟨ρ, G, c, sl, hh, hq⟩ := hq
    simp only [evE] at hq
    refine ⟨ρ, G, c, sl, hh, hq.seq fun p ρ1 v H1 G1 c1 t s1 sl1 h1 r1 k1 => ?_⟩
    have r1' := Rep.absorb h1 r1
    have k1' := k1.go (s1.absorb h1) h1.absorb
    cases e : lstOf p.frz with
    | none => rw [e] at k1'; exact k1'.elim
    | some xs =>
      rw [e] at k1'
      obtain ⟨o', eo⟩ := lstOf_some e
      rw [eo] at r1' k1'
      obtain ⟨a', us, dd, ev, h2, rl, _⟩ := (r1'.vw (c := c1)).lst h1.absorb
      subst ev
      refine ⟨.inl ⟨rfl, us, .of h2⟩, ρ1, addc G1 t, c1, sl1.mono (addc_sub h1.right), h1.absorb, k1'.seq fun q ρ2 w H2 G2 c2 t2 s2 sl2 h3 r2 k2 => ?_⟩
      have r2' := Rep.absorb h3 r2
      have k2' := k2.go (s2.absorb h3) h3.absorb
      have hG := (s2.absorb h3).fz
      cases e2 : indexP (.lst o' xs) q.frz with
      | none => rw [e2] at k2'; exact k2'.elim
      | some r =>
        rw [e2] at k2'
        unfold indexP at e2
        simp only [lstOf, Option.bind] at e2
        split at e2
        · rename_i ds d f1 f2
          split at e2
          · rename_i hz
            obtain ⟨j, f3, rfl⟩ := Option.map_eq_some_iff.mp e2
            have hd1 : (PV.lst o' xs).dat = some (.list ds) := by simp only [PV.dat, f1]; rfl
            exact ⟨a', w, d, ds, j, rfl, rfl, ((r1'.mono hG).vw (c := c2)).dp h3.absorb hd1, (r2'.vw (c := c2)).dp h3.absorb f2, dat_nod f2, datL_nod f1, of_decide_eq_true hz, f3, aft_val k2' (sl2.mono (addc_sub h3.right)) h3.absorb (.int _)⟩
          · cases e2
        · cases e2
/-! ### and, or -/
def boolC (rec : Rec) (m : Bool) (sc : Sc) (o : BoolOp) : List Expr → IE → Bool
  | [], _ => false
  | [a], x => rec m sc a x
  | a :: b :: r, x => (match o, x with
    | .And, .and y z => rec m sc a y && boolC rec m sc o (b :: r) z
    | .Or, .or y z => rec m sc a y && boolC rec m sc o (b :: r) z
    | _, _ => false)
theorem bool_ok (hr : RecOk ad rec) {o : BoolOp} (g : Good ad X W cf sc) : ∀ {es : List Expr} {ie : IE}, boolC rec false sc o es ie = true → SE ad X W (.BoolOp o es pos) (evE cf ie)
  | [], _, h => by cases h
  | [a], x, h => pe_one (hr _ _ _ _ h X W cf g)
  | a :: b :: r, x, h => by
    unfold boolC at h
    split at h
    · rw [Bool.and_eq_true] at h
      exact se_and (hr _ _ _ _ h.1 X W cf g) (bool_ok hr g h.2)
    · rw [Bool.and_eq_true] at h
      exact se_or (hr _ _ _ _ h.1 X W cf g) (bool_ok hr g h.2)
    · cases h
theorem bool_okW (hr : RecOk ad rec) {o : BoolOp} (g : Good ad X W cf sc) : ∀ {es : List Expr} {ie : IE}, boolC rec true sc o es ie = true → SW ad X W (.BoolOp o es pos) (evT cf ie (evE cf ie))
  | [], _, h => by cases h
  | [a], x, h => by
    cases o with
    | And => exact pw_and1 (hr _ _ _ _ h X W cf g)
    | Or => exact pw_or1 (hr _ _ _ _ h X W cf g)
  | a :: b :: r, x, h => by
    unfold boolC at h
    split at h
    · rw [Bool.and_eq_true] at h
      exact sw_and (hr _ _ _ _ h.1 X W cf g) (bool_okW hr g h.2)
    · rw [Bool.and_eq_true] at h
      exact sw_or (hr _ _ _ _ h.1 X W cf g) (bool_okW hr g h.2)
    · cases h
/-! ### comprehensions -/
def Sc.blk (sc : Sc) (scope : Scope) : Sc := { sc with scope := relS scope sc.scope, fnS := fun x => scope.names.lookup x == some .cell }
def ownP (sc : Sc) (own : List Nat) : List (Str × Nat) := own.map fun i => (sc.N.getD i ⟨#[]⟩, i)
theorem ownP_map (sc : Sc) (own : List Nat) : (ownP sc own).map (·.2) = own := by
  unfold ownP
  rw [List.map_map]
  exact List.map_id _
theorem Good.blk (g : Good ad X W cf sc) (hc : sc.calm = true) {s : Shared} {H : Hp} {scope : Scope} {cl : List (Str × Addr)} {C : Addr} {fp : List Addr} : Good ad (X.blk s H scope (compEnvC scope cl C X.env) fp) W0 cf (sc.blk scope) where
  hN := g.hN
  nd := g.nd
  hsc := by
    show relS scope X.env.scope = relS scope sc.scope
    rw [g.hsc]
  hfn := fun x h => h
  calm := fun h => g.calm h
  held := fun i h x hx => by rw [(g.calm hc).2.2] at hx; cases hx
  hu := g.hu
  tk := takes0
  blt := g.blt
  glob := fun x ge h => by
    have := g.glob x ge h
    cases ge with
    | fn k => exact this
    | cst p => exact this
    | xc d => exact this
    | cl k => exact this
  lend := g.lend
  fns := fun k d h => ⟨(g.fns k d h).ex⟩
  ckm := g.ckm
def ifsC (rec : Rec) (sc : Sc) : List Expr → List IE → Bool
  | [], [] => true
  | [e], [x] => rec true sc e x
  | _, _ => false
theorem ifs_ok (hr : RecOk ad rec) {es : List Expr} {ies : List IE} (h : ifsC rec sc es ies = true) (g : Good ad X W cf sc) : PTs X es (rd ad X W RelB (evIfs cf ies)) := by
  unfold ifsC at h
  split at h
  · refine ⟨fun pins s σ H Q I hw => pts_nil.run pins s σ H Q I ?_⟩
    obtain ⟨ρ, G, c, sl, hh, ha⟩ := hw
    simp only [evIfs] at ha
    exact aft_b ha sl hh
  · have := pts_one (hr _ _ _ _ h X W cf g)
    refine ⟨fun pins s σ H Q I hw => this.run pins s σ H Q I ?_⟩
    simpa only [evIfs] using hw
  · cases h
def compC (rec : Rec) (sc : Sc) (el t it : Expr) (fs : List Expr) (scope : Scope) (elt : IE) (tg : IT) (src : ISrc) (ifs : List IE) (own : List Nat) : Bool :=
  sc.calm && blkC sc.N sc.scope scope (ownP sc own) && srcC rec sc t it src && notSet it && tgC 5 (sc.blk scope) t tg && tg.slots.all own.contains && ifsC rec (sc.blk scope) fs ifs && rec false (sc.blk scope) el elt
structure CompOk (ad : Ad) (X : Cx) (W : WX) (cf : Cf) (el t it : Expr) (fs : List Expr) (scope : Scope) (elt : IE) (tg : IT) (src : ISrc) (ifs : List IE) (own : List (Str × Nat)) : Prop where
  calm : X.calm = true
  hn : ad.cur = none
  si : SI ad X W t it (evSrc cf src)
  bo : BlkOk X.N X.env.scope scope own
  sl : ∀ j ∈ tg.slots, j ∈ own.map (·.2)
  pg : ∀ (s : Shared) (H : Hp) (C : Addr) (cl : List (Str × Addr)) (fp : List Addr), PG (X.blk s H scope (compEnvC scope cl C X.env) fp) t (rdG ad X tg)
  pt : ∀ (s : Shared) (H : Hp) (C : Addr) (cl : List (Str × Addr)) (fp : List Addr), PTs (X.blk s H scope (compEnvC scope cl C X.env) fp) fs (rd ad X W0 RelB (evIfs cf ifs))
  pe : ∀ (s : Shared) (H : Hp) (C : Addr) (cl : List (Str × Addr)) (fp : List Addr), PE (X.blk s H scope (compEnvC scope cl C X.env) fp) el (rd ad X W0 (RelP ad X.K) (evE cf elt))
  fs : ∀ x, foldedSetIterable it X.env x = pure x
theorem comp_ok (hr : RecOk ad rec) {el t it : Expr} {fs : List Expr} {scope : Scope} {elt : IE} {tg : IT} {src : ISrc} {ifs : List IE} {own : List Nat} (h : compC rec sc el t it fs scope elt tg src ifs own = true) (g : Good ad X W cf sc) : CompOk ad X W cf el t it fs scope elt tg src ifs (ownP sc own) := by
  unfold compC at h
  simp only [Bool.and_eq_true] at h
  obtain ⟨⟨⟨⟨⟨⟨⟨hc, h1⟩, h2⟩, h3⟩, h4⟩, h5⟩, h6⟩, h7⟩ := h
  refine ⟨(g.calm hc).1, (g.calm hc).2.1, src_ok hr h2 g, ?_, ?_, fun s H C cl fp => tg_ok (W := W0) (cf := cf) (g.blk hc) hc 5 h4, fun s H C cl fp => ifs_ok (W := W0) hr h6 (g.blk hc), fun s H C cl fp => hr _ _ _ _ h7 _ W0 cf (g.blk hc), notSet_ok h3 _⟩
  · rw [g.hN, g.hsc]
    exact blkOk_by h1
  · rw [ownP_map]
    exact fun j hj => List.contains_iff_mem.mp (List.all_eq_true.mp h5 j hj)
theorem CompOk.se {el t it : Expr} {fs : List Expr} {scope : Scope} {elt : IE} {tg : IT} {src : ISrc} {ifs : List IE} {own : List (Str × Nat)} (c : CompOk ad X W cf el t it fs scope elt tg src ifs own) (nd : X.N.Nodup) :
    SE ad X W (.ListComp el [⟨t, it, fs, 0⟩] scope pos) (evE cf (.comp elt tg src ifs (own.map (·.2)))) :=
  se_comp c.hn c.calm nd c.si c.bo c.sl c.pg c.pt c.pe c.fs
def compVC (rec : Rec) (sc : Sc) (el t : Expr) (x : Str) (fs : List Expr) (scope : Scope) (elt : IE) (tg : IT) (i : Nat) (ifs : List IE) (own : List Nat) : Bool :=
  sc.calm && blkC sc.N sc.scope scope (ownP sc own) && nameC sc x i && tgC 5 (sc.blk scope) t tg && tg.slots.all own.contains && ifsC rec (sc.blk scope) fs ifs && rec false (sc.blk scope) el elt
structure CompVOk (ad : Ad) (X : Cx) (W : WX) (cf : Cf) (el t : Expr) (x : Str) (fs : List Expr) (scope : Scope) (elt : IE) (tg : IT) (i : Nat) (ifs : List IE) (own : List (Str × Nat)) : Prop where
  calm : X.calm = true
  hn : ad.cur = none
  nm : ∀ p, PE X (.Name x p) (tVar i)
  bo : BlkOk X.N X.env.scope scope own
  sl : ∀ j ∈ tg.slots, j ∈ own.map (·.2)
  pg : ∀ (s : Shared) (H : Hp) (C : Addr) (cl : List (Str × Addr)) (fp : List Addr), PG (X.blk s H scope (compEnvC scope cl C X.env) fp) t (rdG ad X tg)
  pt : ∀ (s : Shared) (H : Hp) (C : Addr) (cl : List (Str × Addr)) (fp : List Addr), PTs (X.blk s H scope (compEnvC scope cl C X.env) fp) fs (rd ad X W0 RelB (evIfs cf ifs))
  pe : ∀ (s : Shared) (H : Hp) (C : Addr) (cl : List (Str × Addr)) (fp : List Addr), PE (X.blk s H scope (compEnvC scope cl C X.env) fp) el (rd ad X W0 (RelP ad X.K) (evE cf elt))
theorem compV_ok (hr : RecOk ad rec) {el t : Expr} {x : Str} {fs : List Expr} {scope : Scope} {elt : IE} {tg : IT} {i : Nat} {ifs : List IE} {own : List Nat} (h : compVC rec sc el t x fs scope elt tg i ifs own = true) (g : Good ad X W cf sc) : CompVOk ad X W cf el t x fs scope elt tg i ifs (ownP sc own) := by
  unfold compVC at h
  simp only [Bool.and_eq_true] at h
  obtain ⟨⟨⟨⟨⟨⟨hc, h1⟩, h2⟩, h4⟩, h5⟩, h6⟩, h7⟩ := h
  refine ⟨(g.calm hc).1, (g.calm hc).2.1, fun p => g.name h2, ?_, ?_, fun s H C cl fp => tg_ok (W := W0) (cf := cf) (g.blk hc) hc 5 h4, fun s H C cl fp => ifs_ok (W := W0) hr h6 (g.blk hc), fun s H C cl fp => hr _ _ _ _ h7 _ W0 cf (g.blk hc)⟩
  · rw [g.hN, g.hsc]
    exact blkOk_by h1
  · rw [ownP_map]
    exact fun j hj => List.contains_iff_mem.mp (List.all_eq_true.mp h5 j hj)
theorem CompVOk.se {el t : Expr} {x : Str} {p0 : Pos} {fs : List Expr} {scope : Scope} {elt : IE} {tg : IT} {i : Nat} {ifs : List IE} {own : List (Str × Nat)} (c : CompVOk ad X W cf el t x fs scope elt tg i ifs own) (nd : X.N.Nodup) :
    SE ad X W (.ListComp el [⟨t, .Name x p0, fs, 0⟩] scope pos) (evE cf (.compv elt tg i ifs (own.map (·.2)))) :=
  (pe_lc c.calm nd (pi_list (c.nm p0)) c.bo c.pg c.pt c.pe fun _ => rfl).imp fun _ _ _ q => rd_compv c.hn c.sl q
/-! ### expressions -/
def nameE (sc : Sc) (e : Expr) (i : Nat) : Bool := match e with
  | .Name x _ => nameC sc x i
  | _ => false
/-- a side of a comparison -/
def dspC (rec : Rec) (sc : Sc) (e : Expr) (t : Option Bool) (es : List IE) : Bool := match t, es with
  | none, [ie] => opndC rec sc e ie
  | some true, es => (match e with
    | .Tuple els _ _ => opndsC rec sc els es
    | _ => false)
  | some false, es => (match e with
    | .List els _ => opndsC rec sc els es
    | _ => false)
  | _, _ => false
theorem dsp_ok (hr : RecOk ad rec) {e : Expr} {t : Option Bool} {es : List IE} (h : dspC rec sc e t es = true) (g : Good ad X W cf sc) : SD ad X W cf e t es := by
  unfold dspC at h
  split at h
  · exact sd_one (opnd_ok hr h g)
  · split at h
    · exact sd_tup (opnds_ok hr g h)
    · cases h
  · split at h
    · exact sd_lst (opnds_ok hr g h)
    · cases h
  · cases h
/-- a def of the text that is called with these arguments -/
def sigC (sc : Sc) (k : Str) (npre np : Nat) (st : List Bool) (ns : List Str) (ss : List Src) (rs : Option (Nat × Nat)) : Bool := match sc.sig k with
  | some d => calC d npre np st ns ss rs
  | none => false
theorem sigC_ok {k : Str} {npre np : Nat} {st : List Bool} {ns : List Str} {ss : List Src} {rs : Option (Nat × Nat)} (g : Good ad X W cf sc) (hc : sc.calm = true) (h : sigC sc k npre np st ns ss rs = true) : ∃ d, FnG ad X cf true k d ∧ calC d npre np st ns ss rs = true := by
  unfold sigC at h
  split at h
  · rename_i d e
    have := g.fns k d e
    rw [hc] at this
    exact ⟨d, this, h⟩
  · cases h
def mthC (sc : Sc) (np : Nat) (st : List Bool) (ns : List Str) (ss : List Src) (rs : Option (Nat × Nat)) (m : Str) (cs : Option (List Str)) : Bool :=
  sc.cks.all fun K => !fitC cs (.cl K) || (match K.ms.lookup m with
    | some (.df k) => sigC sc k 1 np st ns ss rs
    | some (.cm k) => sigC sc k 1 np st ns ss rs
    | some (.sm k) => sigC sc k 0 np st ns ss rs
    | _ => true)
theorem mthC_ok {np : Nat} {st : List Bool} {ns : List Str} {ss : List Src} {rs : Option (Nat × Nat)} {m : Str} {cs : Option (List Str)} (g : Good ad X W cf sc) (hc : sc.calm = true) (h : mthC sc np st ns ss rs m cs = true) : MthOk ad X cf st np ns ss rs m cs := fun K r ck hf hl => by
  have hm : K ∈ sc.cks := by rw [← g.ckm]; exact ck.mem
  have := List.all_eq_true.mp h K hm
  rw [hf, hl] at this
  simp only [Bool.not_true, Bool.false_or] at this
  cases r with
  | df k => exact sigC_ok g hc this
  | cm k => exact sigC_ok g hc this
  | sm k => exact sigC_ok g hc this
  | pr k => trivial
  | cs s => trivial
def dun2C (sc : Sc) (m : Str) : Bool := sc.cks.all fun K => match K.ms.lookup m with
  | some (.df k) => sigC sc k 2 0 [] [] [] none
  | _ => true
theorem dun2C_ok {m : Str} (g : Good ad X W cf sc) (hc : sc.calm = true) (h : dun2C sc m = true) : Dun2 ad X cf m := fun K k ck hl => by
  have hm : K ∈ sc.cks := by rw [← g.ckm]; exact ck.mem
  have := List.all_eq_true.mp h K hm
  rw [hl] at this
  exact sigC_ok g hc this
def newC (sc : Sc) (np : Nat) (st : List Bool) (ns : List Str) (ss : List Src) (rs : Option (Nat × Nat)) (K : CK) : Bool := match initOf K with
  | some k => sigC sc k 1 np st ns ss rs
  | none => true
theorem newC_ok {np : Nat} {st : List Bool} {ns : List Str} {ss : List Src} {rs : Option (Nat × Nat)} {K : CK} (g : Good ad X W cf sc) (hc : sc.calm = true) (h : newC sc np st ns ss rs K = true) : NewOk ad X cf st np ns ss rs K := fun k hk => by
  unfold newC at h
  rw [hk] at h
  exact sigC_ok g hc h
/-- a method's call whose arguments are plain -/
def formC (es : List Expr) (kws : List Keyword) : Bool := plainEs es && decide (es.length + kws.length + 1 < 30)
theorem formC_ok {es : List Expr} {kws : List Keyword} {env : Env} {pos : Pos} (h : formC es kws = true) (hk : (backToKw pos (keywordEach kws env)).all (·.1.isSome) = true) : methodCallForm (es.length + kws.length) (backTo pos (starEach es env)) (backToKw pos (keywordEach kws env)) = true := by
  simp only [formC, Bool.and_eq_true, decide_eq_true_eq] at h
  unfold methodCallForm
  rw [all_plain h.1, hk]
  simp only [Bool.true_and, decide_eq_true_eq]
  split <;> omega
/-- a call of any form -/
def calXC (rec : Rec) (sc : Sc) (e : Expr) (h : CH) (st ls : List Bool) (ies : List IE) (ss : List Src) (rs : Option (Nat × Nat)) : Bool := match e with
  | .Call f es kws pos => sc.calm && argsXC rec sc es kws st ls ies && (match h, f with
    | .fn k, .Name x _ => globC sc x && (match sc.gl.lookup x with
      | some (.fn k') => decide (k = k')
      | _ => false) && sigC sc k 0 es.length st (kwNames kws) ss rs
    | .new K, .Name x _ => globC sc x && (match sc.gl.lookup x with
      | some (.cl K') => decide (K = K')
      | _ => false) && newC sc es.length st (kwNames kws) ss rs K
    | .newv i K, .Name x _ => nameC sc x i && newC sc es.length st (kwNames kws) ss rs K
    | .mth ie m cs, .Attribute o m' apos => decide (m = m') && baseC o && rec false sc o ie && formC es kws && (apos.endLine == pos.line) && mthC sc es.length st (kwNames kws) ss rs m cs
    | _, _ => false)
  | _ => false
theorem calX_ok (hr : RecOk ad rec) {e : Expr} {h : CH} {st ls : List Bool} {ies : List IE} {ss : List Src} {rs : Option (Nat × Nat)} (hc : calXC rec sc e h st ls ies ss rs = true) (g : Good ad X W cf sc) : SE ad X W e (evE cf (.cal h st ls ies ss rs)) := by
  unfold calXC at hc
  split at hc
  rotate_left
  · cases hc
  simp only [Bool.and_eq_true] at hc
  obtain ⟨⟨calm, ha⟩, hc⟩ := hc
  obtain ⟨a1, a2, a3⟩ := argsX_ok hr g ha
  split at hc
  · simp only [Bool.and_eq_true] at hc
    obtain ⟨⟨h1, h2⟩, h3⟩ := hc
    obtain ⟨g1, g2, g3⟩ := g.gl h1
    split at h2
    · rename_i k' e'
      cases of_decide_eq_true h2
      obtain ⟨m, hk⟩ := g.glob _ _ e'
      obtain ⟨d, F, hd⟩ := sigC_ok g calm h3
      exact se_fn F g1 m hk g.tk (a3 _) a1 hd a2 g2
    · cases h2
  · simp only [Bool.and_eq_true] at hc
    obtain ⟨⟨h1, h2⟩, h3⟩ := hc
    obtain ⟨g1, g2, g3⟩ := g.gl h1
    split at h2
    · rename_i k' e'
      cases of_decide_eq_true h2
      obtain ⟨m, ck⟩ := g.glob _ _ e'
      exact se_new ck g1 m (newC_ok g calm h3) g.tk (a3 _) a1 a2 g2
    · cases h2
  · simp only [Bool.and_eq_true] at hc
    exact se_newv (fun pos => g.name hc.1) (newC_ok g calm hc.2) g.tk (a3 _) a1 a2
  · simp only [Bool.and_eq_true, decide_eq_true_eq] at hc
    obtain ⟨⟨⟨⟨⟨h1, h2⟩, h3⟩, h4⟩, h5⟩, h6⟩ := hc
    subst h1
    exact se_mth (hr _ _ _ _ h3 X W cf g) h2 (mthC_ok g calm h6) g.tk (a3 _) a1 a2 (formC_ok h4 (a3 _)) h5
  · cases hc
def exprC (rec : Rec) (sc : Sc) (e : Expr) : IE → Bool
  | .cst p => cstC sc e p
  | .loc i => nameE sc e i
  | .mov i => nameE sc e i
  | .op f es => opC rec sc e es f
  | .chain f g x y z => (match e with
    | .Compare a [f', g'] [b, d] _ => decide (f = f') && decide (g = g') && !lastMarks [f, g] [b, d] && opndC rec sc a x && opndC rec sc b y && opndC rec sc d z
    | _ => false)
  | .dcmp f t es u ds => (match e with
    | .Compare a [f'] [b] _ => decide (f = f') && !behindInMarks f b && dspC rec sc a t es && dspC rec sc b u ds
    | _ => false)
  | .slc x y z => (match e with
    | .Subscript a (.Slice (some b) (some d) none _) _ => opndC rec sc a x && opndC rec sc b y && opndC rec sc d z
    | _ => false)
  | .and x y => (match e with
    | .BoolOp .And es _ => boolC rec false sc .And es (.and x y)
    | _ => false)
  | .or x y => (match e with
    | .BoolOp .Or es _ => boolC rec false sc .Or es (.or x y)
    | _ => false)
  | .ite t x y => (match e with
    | .IfExp c a b _ => rec true sc c t && rec false sc a x && rec false sc b y
    | _ => false)
  | .lst es => (match e with
    | .List els _ => listC rec sc els es
    | _ => false)
  | .tup es => (match e with
    | .Tuple els _ _ => listC rec sc els es
    | _ => false)
  | .call k ls es => (match e with
    | .Call (.Name x _) as [] _ => sc.calm && globC sc x && (match sc.gl.lookup x with
      | some (.fn k') => decide (k = k')
      | _ => false) && argsC rec sc ls as es && sigC sc k es.length 0 [] [] [] none
    | _ => false)
  | .cal h st ls es ss rs => calXC rec sc e h st ls es ss rs
  | .fld x f => (match e with
    | .Attribute a f' _ => decide (f = f') && baseC a && opndC rec sc a x
    | _ => false)
  | .dsp _ _ _ => false
  | .dun _ _ _ => false
  | .has x y => (match e with
    | .Compare a [.In] [b] _ => sc.calm && !behindInMarks .In b && dun2C sc "__contains__" && rec false sc a x && rec false sc b y
    | _ => false)
  | .lidx x y => (match e with
    | .Call (.Attribute a m apos) [b] [] pos => decide (m = ("index" : Str)) && baseC a && plainE b && (apos.endLine == pos.line) && rec false sc a x && rec false sc b y
    | _ => false)
  | .oeq ng x y => (match e with
    | .Compare a [.Eq] [b] _ => sc.calm && !ng && dun2C sc "__eq__" && rec false sc a x && rec false sc b y
    | _ => false)
  | .dsel _ _ _ => false
  | .hx => false
  | .comp2 _ _ _ _ _ _ _ => false
  | .comp elt tg src ifs own => (match e with
    | .ListComp el [⟨t, it, fs, as⟩] scope _ => decide (as = 0) && compC rec sc el t it fs scope elt tg src ifs own
    | _ => false)
  | .compv elt tg i ifs own => (match e with
    | .ListComp el [⟨t, .Name x _, fs, as⟩] scope _ => decide (as = 0) && compVC rec sc el t x fs scope elt tg i ifs own
    | _ => false)
  | .xf f => (match e, sc.cur with
    | .Attribute (.Name x _) n _, some i => decide (n = f) && nameC sc x i
    | _, _ => false)
  | .xi _ => false
  | .tupo es => (match e with
    | .Tuple els _ _ => listC rec sc els es
    | _ => false)
  | .it _ _ => false
theorem nameE_ok {e : Expr} {i : Nat} (h : nameE sc e i = true) (g : Good ad X W cf sc) : ∃ x p, e = .Name x p ∧ PE X (.Name x p) (tVar i) := by
  unfold nameE at h
  split at h
  · exact ⟨_, _, rfl, g.name h⟩
  · cases h
theorem expr_ok (hr : RecOk ad rec) {e : Expr} {ie : IE} (h : exprC rec sc e ie = true) : Snd ad false sc e ie := fun X W cf g => by
  cases ie with
  | cst p => exact cst_ok h X W cf g
  | loc i =>
    obtain ⟨x, p, rfl, hp⟩ := nameE_ok h g
    exact se_loc hp
  | mov i =>
    obtain ⟨x, p, rfl, hp⟩ := nameE_ok h g
    exact se_mov hp
  | op f es => exact op_ok hr h g
  | chain f g' x y z =>
    simp only [exprC] at h
    split at h
    · simp only [Bool.and_eq_true, decide_eq_true_eq, Bool.not_eq_true'] at h
      obtain ⟨⟨⟨⟨⟨rfl, rfl⟩, h0⟩, h1⟩, h2⟩, h3⟩ := h
      exact se_chain g.hu (opnd_ok hr h1 g) (opnd_ok hr h2 g) (opnd_ok hr h3 g) h0
    · cases h
  | dcmp f t es u ds =>
    simp only [exprC] at h
    split at h
    · simp only [Bool.and_eq_true, decide_eq_true_eq, Bool.not_eq_true'] at h
      obtain ⟨⟨⟨rfl, h0⟩, h1⟩, h2⟩ := h
      exact (pe_cmpR (op_cmpN g.hu _) (dsp_ok (W := W) hr h1 g) (dsp_ok (W := W) hr h2 g) h0).imp fun _ _ _ q => rd_dcmp q
    · cases h
  | slc x y z =>
    simp only [exprC] at h
    split at h
    · simp only [Bool.and_eq_true] at h
      exact se_slice3 (opnd_ok hr h.1.1 g) (opnd_ok hr h.1.2 g) (opnd_ok hr h.2 g)
    · cases h
  | and x y =>
    simp only [exprC] at h
    split at h
    · exact bool_ok hr g h
    · cases h
  | or x y =>
    simp only [exprC] at h
    split at h
    · exact bool_ok hr g h
    · cases h
  | ite t x y =>
    simp only [exprC] at h
    split at h
    · simp only [Bool.and_eq_true] at h
      exact se_ite (hr _ _ _ _ h.1.1 X W cf g) (hr _ _ _ _ h.1.2 X W cf g) (hr _ _ _ _ h.2 X W cf g)
    · cases h
  | lst es =>
    simp only [exprC] at h
    split at h
    · exact se_lst (list_ok hr g h)
    · cases h
  | tup es =>
    simp only [exprC] at h
    split at h
    · exact se_tup (list_ok hr g h)
    · cases h
  | call k ls es =>
    simp only [exprC] at h
    split at h
    · rename_i x p as p2
      simp only [Bool.and_eq_true] at h
      obtain ⟨⟨⟨⟨hc, h1⟩, h2⟩, h3⟩, h4⟩ := h
      obtain ⟨g1, g2, g3⟩ := g.gl h1
      split at h2
      · rename_i k' e
        cases of_decide_eq_true h2
        obtain ⟨m, hk⟩ := g.glob _ _ e
        obtain ⟨d, F, hd⟩ := sigC_ok g hc h4
        cases as with
        | nil =>
          cases es with
          | nil => exact se_callG0 F hd g1 m hk g.tk g2
          | cons => cases h3
        | cons a as =>
          have hp := argsC_plain h3
          simp only [plainEs, Bool.and_eq_true] at hp
          exact se_callG F hd g1 m hk g.tk (args_ok hr g h3) g2 (star_cons hp.1 _) (back_plain hp.2) fun _ _ _ e => evA_len e
      · cases h2
    · cases h
  | comp elt tg src ifs own =>
    simp only [exprC] at h
    split at h
    · simp only [Bool.and_eq_true, decide_eq_true_eq] at h
      obtain ⟨rfl, h⟩ := h
      have := (comp_ok hr h g).se (pos := ‹_›) g.nd
      rw [ownP_map] at this
      exact this
    · cases h
  | compv elt tg i ifs own =>
    simp only [exprC] at h
    split at h
    · rename_i el t x p0 fs as scope p1
      simp only [Bool.and_eq_true, decide_eq_true_eq] at h
      obtain ⟨rfl, h⟩ := h
      have := (compV_ok hr h g).se (p0 := p0) (pos := p1) g.nd
      rw [ownP_map] at this
      exact this
    · cases h
  | xf f =>
    simp only [exprC] at h
    split at h
    · rename_i x p n p1 i hcur
      simp only [Bool.and_eq_true, decide_eq_true_eq] at h
      obtain ⟨rfl, h⟩ := h
      exact se_xf (g.held i hcur) (g.name h) rfl
    · cases h
  | xi t => cases h
  | tupo es =>
    simp only [exprC] at h
    split at h
    · exact se_tupo (list_ok hr g h)
    · cases h
  | it i k => cases h
  | cal hd st ls es ss rs => exact calX_ok hr h g
  | fld x f =>
    simp only [exprC] at h
    split at h
    · simp only [Bool.and_eq_true, decide_eq_true_eq] at h
      obtain ⟨⟨rfl, h1⟩, h2⟩ := h
      exact se_fld (opnd_ok hr h2 g) h1
    · cases h
  | dsp t st es => cases h
  | dun m x y => cases h
  | has x y =>
    simp only [exprC] at h
    split at h
    · simp only [Bool.and_eq_true, Bool.not_eq_true'] at h
      obtain ⟨⟨⟨⟨h1, h2⟩, h3⟩, h4⟩, h5⟩ := h
      exact se_has (dun2C_ok g h1 h3) h2 (hr _ _ _ _ h4 X W cf g) (hr _ _ _ _ h5 X W cf g)
    · cases h
  | lidx x y =>
    simp only [exprC] at h
    split at h
    · simp only [Bool.and_eq_true, decide_eq_true_eq] at h
      obtain ⟨⟨⟨⟨⟨h0, h1⟩, h2⟩, h3⟩, h4⟩, h5⟩ := h
      subst h0
      exact se_lidx g.hu (hr _ _ _ _ h4 X W cf g) (hr _ _ _ _ h5 X W cf g) (base_eq h1) h2 h3
    · cases h
  | oeq ng x y =>
    simp only [exprC] at h
    split at h
    · simp only [Bool.and_eq_true, Bool.not_eq_true'] at h
      obtain ⟨⟨⟨⟨h1, h2⟩, h3⟩, h4⟩, h5⟩ := h
      subst h2
      exact se_oeq (by have := g.hu; omega) (dun2C_ok g h1 h3) (hr _ _ _ _ h4 X W cf g) (hr _ _ _ _ h5 X W cf g)
    · cases h
  | dsel ks es k => cases h
  | hx => cases h
  | comp2 a b c d e f i => cases h
/-! ### tests -/
def notNot : Op → Bool
  | .not => false
  | _ => true
def valT (rec : Rec) (sc : Sc) (e : Expr) : IE → Bool
  | .op f es => notNot f && rec false sc e (.op f es)
  | .chain _ _ _ _ _ => false
  | .dcmp _ _ _ _ _ => false
  | .and _ _ => false
  | .or _ _ => false
  | .oeq _ _ _ => false
  | .has _ _ => false
  | ie => opndC rec sc e ie
def testC (rec : Rec) (sc : Sc) (e : Expr) (ie : IE) : Bool := match e with
  | .UnaryOp .Not a _ => (match ie with
    | .op .not [x] => rec true sc a x
    | _ => false)
  | .BoolOp o es _ => boolC rec true sc o es ie
  | .Compare a os bs p => (match ie with
    | .op (.cmp o) es => cmpC rec sc o (.Compare a os bs p) es
    | .chain f g x y z => (match os, bs with
      | [f', g'], [b, d] => decide (f = f') && decide (g = g') && !lastMarks [f, g] [b, d] && opndC rec sc a x && opndC rec sc b y && opndC rec sc d z
      | _, _ => false)
    | .dcmp f t es u ds => (match os, bs with
      | [f'], [b] => decide (f = f') && !behindInMarks f b && dspC rec sc a t es && dspC rec sc b u ds
      | _, _ => false)
    | .oeq ng x y => exprC rec sc (.Compare a os bs p) (.oeq ng x y)
    | .has x y => exprC rec sc (.Compare a os bs p) (.has x y)
    | _ => false)
  | e => valueE e && valT rec sc e ie
theorem evT_op {f : Op} {es : List IE} {run : Fr → Res PV} (h : notNot f = true) (ρ : Fr) : evT cf (.op f es) run ρ = asB (run ρ) := by
  cases f <;> first
    | simp only [evT]
    | cases h
def valIE : IE → Bool
  | .op _ _ => false
  | .chain _ _ _ _ _ => false
  | .dcmp _ _ _ _ _ => false
  | .and _ _ => false
  | .or _ _ => false
  | .oeq _ _ _ => false
  | .has _ _ => false
  | _ => true
theorem evT_val {ie : IE} {run : Fr → Res PV} (h : valIE ie = true) (ρ : Fr) : evT cf ie run ρ = (opnd ie run ρ).bind fun o ρ1 => match rsv ρ1 o with
    | some p => (match truth p with
      | some k => .ok k ρ1
      | none => .bad)
    | none => .bad := by
  cases ie <;> first
    | first | (simp only [evT]; done) | (simp only [evT]; rfl)
    | cases h
theorem st_valT (hr : RecOk ad rec) {e : Expr} {ie : IE} (he : valueE e = true) (h : valT rec sc e ie = true) (g : Good ad X W cf sc) : ST ad X W e (evT cf ie (evE cf ie)) := by
  by_cases hv : valIE ie = true
  · have h' : opndC rec sc e ie = true := by
      cases ie <;> first
        | exact h
        | cases hv
    refine (pt_truth (opnd_ok (W := W) hr h' g) (valueE_true he _)).imp fun σ H Q q => rd_truth (ie := ie) (run := evE cf ie) ?_
    obtain ⟨ρ, G, c, sl, hh, ha⟩ := q
    exact ⟨ρ, G, c, sl, hh, by rw [evT_val hv] at ha; exact ha⟩
  · cases ie with
    | op f es =>
      simp only [valT, Bool.and_eq_true] at h
      refine (pt_truth (hr _ _ _ _ h.2 X W cf g) (valueE_true he _)).imp fun σ H Q q => ?_
      have q' : rd ad X W RelB (fun ρ => asB (evE cf (.op f es) ρ)) σ H Q := by
        obtain ⟨ρ, G, c, sl, hh, ha⟩ := q
        exact ⟨ρ, G, c, sl, hh, by rw [evT_op h.1] at ha; exact ha⟩
      exact rd_imp (rd_asB q') fun v H1 ⟨k, e, q⟩ => ⟨k, by subst e; rfl, q⟩
    | chain => cases h
    | dcmp => cases h
    | and => cases h
    | or => cases h
    | oeq => cases h
    | has => cases h
    | _ => exact absurd rfl hv
theorem test_ok (hr : RecOk ad rec) {e : Expr} {ie : IE} (h : testC rec sc e ie = true) : Snd ad true sc e ie := fun X W cf g => by
  unfold testC at h
  split at h
  · split at h
    · exact st_not (hr _ _ _ _ h X W cf g)
    · cases h
  · exact (bool_okW hr g h).pt
  · split at h
    · exact cmp_okT hr h g
    · split at h
      · simp only [Bool.and_eq_true, decide_eq_true_eq, Bool.not_eq_true'] at h
        obtain ⟨⟨⟨⟨⟨rfl, rfl⟩, h0⟩, h1⟩, h2⟩, h3⟩ := h
        exact (pt_chain (op_cmpN g.hu _) (op_cmpN g.hu _) (opnd_ok hr h1 g) (opnd_ok hr h2 g) (opnd_ok hr h3 g) h0).imp fun _ _ _ q => rd_chain (W := W) (rd_asB (by simpa only [evT] using q))
      · cases h
    · split at h
      · simp only [Bool.and_eq_true, decide_eq_true_eq, Bool.not_eq_true'] at h
        obtain ⟨⟨⟨rfl, h0⟩, h1⟩, h2⟩ := h
        exact (pt_cmpR (op_cmpN g.hu _) (dsp_ok (W := W) hr h1 g) (dsp_ok (W := W) hr h2 g) h0).imp fun _ _ _ q => rd_dcmp (rd_asB (by simpa only [evT] using q))
      · cases h
    · simp only [exprC] at h
      split at h
      · rename_i e1
        cases e1
        simp only [Bool.and_eq_true, Bool.not_eq_true'] at h
        obtain ⟨⟨⟨⟨h1, h2⟩, h3⟩, h4⟩, h5⟩ := h
        subst h2
        exact st_oeq (by have := g.hu; omega) (dun2C_ok g h1 h3) (hr _ _ _ _ h4 X W cf g) (hr _ _ _ _ h5 X W cf g)
      · cases h
    · simp only [exprC] at h
      split at h
      · rename_i e1
        cases e1
        simp only [Bool.and_eq_true, Bool.not_eq_true'] at h
        obtain ⟨⟨⟨⟨h1, h2⟩, h3⟩, h4⟩, h5⟩ := h
        exact st_has (dun2C_ok g h1 h3) h2 (hr _ _ _ _ h4 X W cf g) (hr _ _ _ _ h5 X W cf g)
      · cases h
    · cases h
  · rw [Bool.and_eq_true] at h
    exact st_valT hr h.1 h.2 g
/-- the checker -/
def chk : Nat → Rec
  | 0 => fun _ _ _ _ => false
  | n + 1 => fun m sc e ie => match m with
    | false => exprC (chk n) sc e ie
    | true => testC (chk n) sc e ie
theorem chk_ok : ∀ n : Nat, RecOk ad (chk n)
  | 0 => fun m sc e ie h => by cases h
  | n + 1 => fun m sc e ie h => by
    cases m with
    | false => exact expr_ok (chk_ok n) h
    | true => exact test_ok (chk_ok n) h
end
end Y
end
section
set_option Elab.async false
set_option linter.all false
set_option maxRecDepth 100000
set_option maxHeartbeats 4000000
set_option autoImplicit false
/-! Y15: the checker: statements. -/
namespace Y
open PySem L2
variable {ad : Ad}
structure GoodS (ad : Ad) (X : Cx) (W : WX) (cf : Cf) (sc : Sc) (P : Pt) : Prop where
  g : Good ad X W cf sc
  pass : PassesOwn (model X.prog X.w) X.A X.env X.xe
  pr : P.pr = sc.pr
  curp : ∀ z, ad.cur = some z → z.i ∈ P.pr
  stk : X.stack = X.env :: X.outer
  frm : X.env.frame = some X.env.locals
def scopeOfC : Expr → Option Scope
  | .ListComp _ _ s _ => some s
  | .SetComp _ _ s _ => some s
  | .DictComp _ _ _ s _ => some s
  | _ => none
def blkFn (sc : Sc) : Bool := (if sc.scope.kind.isAnnotationScope then ScopeKind.function else sc.scope.kind) == .function
def swC (sc : Sc) (v : Expr) (x : Str) (p : Pos) : Bool := match scopeOfC v with
  | none => false
  | some s => blkFn sc && sc.scope.names.lookup x == some .local && p.line == v.pos.line && !(s.names.any fun (n, k) => n == x && (k == .local || k == .cell))
section
variable {X : Cx} {W : WX} {cf : Cf} {sc : Sc} {P : Pt} {rec : Rec} {pos : Pos}
theorem sw_eq (g : Good ad X W cf sc) (v : Expr) (x : Str) (p : Pos) (line : Nat) : swapsWith v (some (.Name x p)) line X.env = pure (swC sc v x p) := by
  have e1 : X.env.blockKind = (if sc.scope.kind.isAnnotationScope then ScopeKind.function else sc.scope.kind) := by
    unfold Env.blockKind
    rw [g.hsc]
  have e2 : X.env.kindOf x = sc.scope.names.lookup x := by
    unfold Env.kindOf
    rw [g.hsc]
  cases v <;> first
    | rfl
    | (simp only [swapsWith, swC, scopeOfC, blkFn, e1, e2])
def notName : Expr → Bool
  | .Name _ _ => false
  | _ => true
theorem sw_no {v t : Expr} (h : notName t = true) (line : Nat) (env : Env) : swapsWithSole [t] v line env = pure false := by
  cases t <;> first
    | (cases v <;> rfl)
    | cases h
theorem sw_drop {v : Expr} (h : (scopeOfC v).isNone = true) (line : Nat) (env : Env) : swapsWith v none line env = pure false := by
  cases v <;> first
    | rfl
    | cases h
theorem Good.store (g : Good ad X W cf sc) {x : Str} {i : Nat} (h1 : decide (sc.N[i]? = some x) = true) (h2 : locC sc x = true) : X.N[i]? = some x ∧ Loc X.env.scope x ∧ (X.fn x = true ∨ X.env.scope.names.lookup x = some .local) := by
  obtain ⟨a, b⟩ := g.loc h2
  exact ⟨by rw [g.hN]; exact of_decide_eq_true h1, a, b⟩
theorem prC (s : GoodS ad X W cf sc P) {i : Nat} (h : sc.pr.contains i = false) : i ∉ P.pr ∧ Free ad i := by
  have h1 : i ∉ P.pr := fun z => by
    rw [s.pr] at z
    rw [List.contains_iff_mem.mpr z] at h
    cases h
  exact ⟨h1, fun z e q => h1 (q ▸ s.curp z e)⟩
theorem Good.prs (g : Good ad X W cf sc) (pr : List Nat) : Good ad X W cf { sc with pr := pr } := ⟨g.hN, g.nd, g.hsc, g.hfn, g.calm, g.held, g.hu, g.tk, g.blt, g.glob, g.lend, g.fns, g.ckm⟩
/-- name = value -/
def setC (rec : Rec) (sc : Sc) (i : Nat) (st : Stmt) (e : IE) : Bool := match st with
  | .Assign [.Name x p] v _ => decide (sc.N[i]? = some x) && locC sc x && !sc.pr.contains i && (match swC sc v x p with
    | false => rec false sc v e
    | true => (match v, e with
      | .ListComp el [⟨t, it, fs, as⟩] scope _, .comp elt tg src ifs own => decide (as = 0) && compC rec sc el t it fs scope elt tg src ifs own
      | .ListComp el [⟨t, .Name x2 _, fs, as⟩] scope _, .compv elt tg j ifs own => decide (as = 0) && compVC rec sc el t x2 fs scope elt tg j ifs own
      | _, _ => false))
  | _ => false
theorem set_ok (hr : RecOk ad rec) {i : Nat} {st : Stmt} {e : IE} (h : setC rec sc i st e = true) (s : GoodS ad X W cf sc P) : SS ad X W P st (evS cf (.set i e)) := by
  have g := s.g
  unfold setC at h
  split at h
  · rename_i x p v spos
    simp only [Bool.and_eq_true, Bool.not_eq_true'] at h
    obtain ⟨⟨⟨h1, h2⟩, h3⟩, h⟩ := h
    obtain ⟨a, b, c⟩ := g.store h1 h2
    split at h
    · rename_i hsw
      exact ss_set (ps_set g.nd a b (hr _ _ _ _ h X W cf g) (by rw [sw_eq g, hsw]) c) (prC s h3)
    · rename_i hsw
      split at h
      · simp only [Bool.and_eq_true, decide_eq_true_eq] at h
        obtain ⟨rfl, h⟩ := h
        have k := comp_ok (X := X) (W := W) (cf := cf) hr h g
        have hl : sc.scope.names.lookup x = some .local := by
          simp only [swC, scopeOfC, Bool.and_eq_true] at hsw
          simpa using hsw.1.1.2
        refine ss_set ((ps_setLc k.calm g.nd a (by rw [g.hsc]; exact hl) (by rw [sw_eq g, hsw]) k.si k.bo k.pg k.pt k.pe k.fs).imp fun D σ H q => ?_) (prC s h3)
        obtain ⟨ρ, G, cc, sl, hh, ha⟩ := q
        have q' : rd ad X W (RelP ad X.K) (evE cf (.comp _ _ _ _ ((ownP sc _).map (·.2)))) σ H fun x H1 => gName i x σ H1 D.nx := ⟨ρ, G, cc, sl, hh, by rw [ownP_map]; exact ha⟩
        exact rd_comp k.hn k.sl q'
      · simp only [Bool.and_eq_true, decide_eq_true_eq] at h
        obtain ⟨rfl, h⟩ := h
        have k := compV_ok (X := X) (W := W) (cf := cf) hr h g
        have hl : sc.scope.names.lookup x = some .local := by
          simp only [swC, scopeOfC, Bool.and_eq_true] at hsw
          simpa using hsw.1.1.2
        refine ss_set ((ps_setLc k.calm g.nd a (by rw [g.hsc]; exact hl) (by rw [sw_eq g, hsw]) (pi_list (k.nm _)) k.bo k.pg k.pt k.pe fun _ => rfl).imp fun D σ H q => ?_) (prC s h3)
        obtain ⟨ρ, G, cc, sl, hh, ha⟩ := q
        have q' : rd ad X W (RelP ad X.K) (evE cf (.compv _ _ _ _ ((ownP sc _).map (·.2)))) σ H fun x H1 => gName i x σ H1 D.nx := ⟨ρ, G, cc, sl, hh, by rw [ownP_map]; exact ha⟩
        exact rd_compv k.hn k.sl q'
      · cases h
  · cases h
/-- a, b = value (not a display) -/
def isTupD : Expr → Bool
  | .Tuple _ _ _ => true
  | _ => false
def asgC (rec : Rec) (sc : Sc) (tg : IT) (st : Stmt) (e : IE) : Bool := match st with
  | .Assign [.Tuple es k p] v _ => sc.calm && !isTupD v && tgC 5 sc (.Tuple es k p) tg && tg.slots.all (fun j => !sc.pr.contains j) && rec false sc v e
  | _ => false
theorem swst_no {es : List Expr} {k : Nat} {p : Pos} {v : Expr} (h : isTupD v = false) (env : Env) : swappedStores [.Tuple es k p] v env = pure none := by
  cases v <;> first
    | rfl
    | cases h
theorem asg_ok (hr : RecOk ad rec) {tg : IT} {st : Stmt} {e : IE} (h : asgC rec sc tg st e = true) (s : GoodS ad X W cf sc P) : SS ad X W P st (evS cf (.asg tg e)) := by
  unfold asgC at h
  split at h
  · simp only [Bool.and_eq_true, Bool.not_eq_true'] at h
    obtain ⟨⟨⟨⟨hc, h1⟩, h2⟩, h3⟩, h4⟩ := h
    refine ss_asg (ps_asg (hr _ _ _ _ h4 X W cf s.g) (tg_ok s.g hc 5 h2) (sw_no rfl _ _) (swst_no h1 _) rfl) fun j hj => (prC s ?_).1
    have := List.all_eq_true.mp h3 j hj
    simpa using this
  · cases h
/-- name += value -/
def augC (rec : Rec) (sc : Sc) (i : Nat) (op : Operator) (st : Stmt) (e : IE) : Bool := match st with
  | .AugAssign (.Name x _) o v _ => decide (o = op) && (decide (op = .Add) || decide (op = .Sub)) && decide (sc.N[i]? = some x) && locC sc x && visC sc x && !sc.pr.contains i && rec false sc v e
  | _ => false
theorem aug_ok (hr : RecOk ad rec) {i : Nat} {op : Operator} {st : Stmt} {e : IE} (h : augC rec sc i op st e = true) (s : GoodS ad X W cf sc P) : SS ad X W P st (evS cf (.aug i op e)) := by
  unfold augC at h
  split at h
  · simp only [Bool.and_eq_true, Bool.or_eq_true, Bool.not_eq_true'] at h
    obtain ⟨⟨⟨⟨⟨⟨h0, ho⟩, h1⟩, h2⟩, hv⟩, h3⟩, h⟩ := h
    cases of_decide_eq_true h0
    obtain ⟨a, b, c⟩ := s.g.store h1 h2
    rcases ho with ho | ho
    · cases of_decide_eq_true ho
      exact ss_aug (ps_aug s.g.nd a b (hr _ _ _ _ h X W cf s.g) ip_add c) (prC s h3) (.inl ⟨rfl, rfl⟩)
    · cases of_decide_eq_true ho
      exact ss_aug (ps_aug s.g.nd a b (hr _ _ _ _ h X W cf s.g) ip_sub c) (prC s h3) (.inr ⟨rfl, rfl⟩)
  · cases h
/-- name[ix] = value -/
def subC (rec : Rec) (sc : Sc) (i : Nat) (ix e : IE) (st : Stmt) : Bool := match st with
  | .Assign [.Subscript (.Name x _) b _] v _ => nameC sc x i && plainIxE b && opndC rec sc b ix && rec false sc v e
  | _ => false
theorem sub_ok (hr : RecOk ad rec) {i : Nat} {ix e : IE} {st : Stmt} (h : subC rec sc i ix e st = true) (s : GoodS ad X W cf sc P) : SS ad X W P st (evS cf (.sub i ix e)) := by
  unfold subC at h
  split at h
  · rename_i x p b p2 v p3
    simp only [Bool.and_eq_true] at h
    obtain ⟨⟨⟨h1, h2⟩, h3⟩, h4⟩ := h
    refine (ps_asg (hr _ _ _ _ h4 X W cf s.g) (pg_sub (s.g.name h1) (opnd_ok (W := W) hr h3 s.g) set_list fun v => ?_) (sw_no rfl _ _) (by cases v <;> rfl) rfl).imp fun D σ H q => rd_sub q
    cases b <;> first
      | rfl
      | cases h2
  · cases h
/-- name.append(e), name.extend(e) -/
def appC (rec : Rec) (sc : Sc) (m : Str) (i : Nat) (e : IE) (st : Stmt) : Bool := match st with
  | .Expr (.Call (.Attribute (.Name x _) name apos) [a] [] cpos) _ => decide (name = m) && nameC sc x i && (apos.endLine == cpos.line) && plainE a && rec false sc a e
  | _ => false
theorem few1 {a : Expr} (h : plainE a = true) {cpos : Pos} {env : Env} : ((backTo cpos (starEach [a] env)).all (fun x => !x.1) && (backToKw cpos (keywordEach [] env)).all (fun x => x.1.isSome)
      && decide ([a].length + ([] : List Keyword).length + (if ([] : List Keyword).isEmpty then 0 else 1) < 30)) = true := by
  rw [all_plain (by simp [plainEs, h])]
  rfl
theorem app_ok' (hr : RecOk ad rec) {i : Nat} {e : IE} {st : Stmt} (h : appC rec sc ("append" : Str) i e st = true) (s : GoodS ad X W cf sc P) : SS ad X W P st (evS cf (.app i e)) := by
  unfold appC at h
  split at h
  · simp only [Bool.and_eq_true, decide_eq_true_eq] at h
    obtain ⟨⟨⟨⟨rfl, h1⟩, h2⟩, h3⟩, h4⟩ := h
    exact (ps_expr (pe_bm PySem.F.plainAttrs_list PySem.F.slot_list_append PySem.F.type_list_append (fun pins s σ H x xs v us Q I r rs q => mt_append pins s σ H x xs v us Q I r rs q) (s.g.name h1) (pa_cons (hr _ _ _ _ h4 X W cf s.g) pa_nil (star1 h3 _)) rfl (few1 h3) h2 (star1 h3 _) rfl) rfl).imp fun D σ H q => rd_app q
  · cases h
theorem ext_ok' (hr : RecOk ad rec) {i : Nat} {e : IE} {st : Stmt} (h : appC rec sc ("extend" : Str) i e st = true) (s : GoodS ad X W cf sc P) : SS ad X W P st (evS cf (.ext i e)) := by
  unfold appC at h
  split at h
  · simp only [Bool.and_eq_true, decide_eq_true_eq] at h
    obtain ⟨⟨⟨⟨rfl, h1⟩, h2⟩, h3⟩, h4⟩ := h
    exact (ps_expr (pe_bm PySem.F.plainAttrs_list PySem.F.slot_list_extend PySem.F.type_list_extend (fun pins s σ H x xs v us Q I r rs q => mt_extend pins s σ H x xs v us Q I r rs q) (s.g.name h1) (pa_cons (hr _ _ _ _ h4 X W cf s.g) pa_nil (star1 h3 _)) rfl (few1 h3) h2 (star1 h3 _) rfl) rfl).imp fun D σ H q => rd_ext q
  · cases h
/-! ### blocks -/
abbrev RecS := Sc → List Stmt → List IS → Bool
abbrev RecSOk (ad : Ad) (recB : RecS) : Prop := ∀ sc sts iss, recB sc sts iss = true → ∀ X W cf P, GoodS ad X W cf sc P → SB ad X W P sts (evB cf iss)
/-- a class of errors of the text -/
def clsC (sc : Sc) (k : Str) : Bool := globC sc k && (match sc.gl.lookup k with
  | some (.xc _) => true
  | _ => false)
theorem Good.cls (g : Good ad X W cf sc) {k : Str} (h : clsC sc k = true) : Names X k (.ref (ad k)) := by
  unfold clsC at h
  rw [Bool.and_eq_true] at h
  obtain ⟨h1, h2, h3⟩ := g.gl h.1
  have h4 := h.2
  split at h4
  · rename_i d hd
    exact ⟨h1, h2, .inl (g.glob k _ hd).2.1⟩
  · cases h4
def Sc.suite (sc : Sc) : Sc := { sc with calm := false, cur := none }
def Sc.suiteN (sc : Sc) (i : Nat) : Sc := { sc with calm := false, cur := some i, pr := i :: sc.pr }
def hdsC (recB : RecS) (sc : Sc) : List ExceptHandler → IH → Bool
  | [], .nil => true
  | .ExceptHandler (some (.Name k _)) none (b₀ :: suite) _ :: r, .cons k' none is r' => decide (k = k') && clsC sc k && recB sc.suite (b₀ :: suite) is && hdsC recB sc r r'
  | .ExceptHandler (some (.Name k _)) (some n) (b₀ :: suite) _ :: r, .cons k' (some i) is r' => decide (k = k') && clsC sc k && decide (sc.N[i]? = some n) && decide (sc.scope.names.lookup n = some .local) && !sc.pr.contains i && recB (sc.suiteN i) (b₀ :: suite) is && hdsC recB sc r r'
  | _, _ => false
def tryC (recB : RecS) (sc : Sc) (st : Stmt) (ib : List IS) (ih : IH) : Bool := match st with
  | .Try body (h₀ :: hds) [] [] _ => sc.calm && recB sc body ib && hdsC recB sc (h₀ :: hds) ih
  | _ => false
theorem Good.tr (g : Good ad X W cf sc) (hc : sc.calm = true) {W' : WX} {pn : List (Addr × Obj)} {xe : Value → Shared → Prop} (t : Takes (X.tr pn xe) W') : Good ad (X.tr pn xe) W' cf sc := by
  refine ⟨g.hN, g.nd, g.hsc, g.hfn, g.calm, fun i h x hx => ?_, g.hu, t, g.blt, fun x ge h => ?_, g.lend, fun k d h => ⟨(g.fns k d h).ex⟩, g.ckm⟩
  · rw [(g.calm hc).2.2] at hx
    cases hx
  · have := g.glob x ge h
    cases ge <;> exact this
theorem Good.suite (g : Good ad X W cf sc) {sc' : Sc} {z : Option Xc} {cf' : Cf} {a : Addr} {pn : List (Addr × Obj)} (hN : sc'.N = sc.N) (hs : sc'.scope = sc.scope) (hf : sc'.fnS = sc.fnS) (hg : sc'.gl = sc.gl) (hb : sc'.bl = sc.bl) (hl : sc'.lend = sc.lend) (hsg : sc'.sig = sc.sig) (hck : sc'.cks = sc.cks) (hcm : sc'.calm = false)
    (hcf : cf'.call = cf.call ∧ cf'.lend = cf.lend) (hh : ∀ i, sc'.cur = some i → HeldAt ⟨ad.nm, z⟩ (X.suite a pn) cf' i) : Good ⟨ad.nm, z⟩ (X.suite a pn) W0 cf' sc' := by
  refine ⟨g.hN.trans hN.symm, g.nd, g.hsc.trans hs.symm, fun x h => g.hfn x (by rw [← hf]; exact h), fun h => ?_, hh, g.hu, takes_none5, fun x h => g.blt x (by rw [← hb]; exact h), fun x ge h => ?_, ?_, fun k d h => ?_, by rw [hck]; exact g.ckm⟩
  · rw [hcm] at h
    cases h
  · have := g.glob x ge (by rw [← hg]; exact h)
    cases ge with
    | fn k =>
      exact this
    | cl k =>
      exact this
    | cst p =>
      obtain ⟨u, v, h1, h2, h3⟩ := this
      exact ⟨u, v, h1, h2, fun G => Rep.re (ad := ad) (ad' := ⟨ad.nm, z⟩) rfl (h3 G)⟩
    | xc d =>
      obtain ⟨h1, h2, h3, h4, h5, h6⟩ := this
      exact ⟨h1, h2, XdOk.re (ad := ad) (ad' := ⟨ad.nm, z⟩) rfl h3, ⟨0, fun h => (by rw [hcm] at h; cases h)⟩, h5, h6⟩
  · rw [hcf.2, hl]
    exact g.lend
  · obtain ⟨kk, fd, dflV, kwdV, h1, h2, h3, h4⟩ := (g.fns k d (by rw [← hsg]; exact h)).ex
    refine ⟨kk, fd, dflV, kwdV, ?_, h2, h3, fun h => (by rw [hcm] at h; cases h)⟩
    rw [hcf.1]
    exact h1
theorem hds_ok {recB : RecS} (hb : ∀ ad, RecSOk ad recB) (s : GoodS ad X W cf sc P) (hc : sc.calm = true) : ∀ {hds : List ExceptHandler} {ih : IH}, hdsC recB sc hds ih = true → freeN P.pr ih ∧ HdsN X hds (hdsN ad X P cf ih) := by
  intro hds ih h
  have hcur : ad.cur = none := (s.g.calm hc).2.1
  have had : (⟨ad.nm, none⟩ : Ad) = ad := by
    obtain ⟨f, c⟩ := ad
    cases hcur
    rfl
  induction hds generalizing ih with
  | nil =>
    cases ih with
    | nil => exact ⟨trivial, .nil⟩
    | cons => cases h
  | cons hd r ihr =>
    unfold hdsC at h
    split at h
    · cases ‹_ :: _ = []›
    · rename_i k np b₀ suite p r0 k' is r' e1
      cases e1
      simp only [Bool.and_eq_true, decide_eq_true_eq] at h
      obtain ⟨⟨⟨rfl, h1⟩, h2⟩, h3⟩ := h
      obtain ⟨n1, n2⟩ := ihr h3
      refine ⟨n1, .cons (n := none) (i := none) (s.g.cls h1) trivial (fun a oe cls d pn hz hf => ?_) n2⟩
      have gs : Good ad (X.suite a ((a, oe) :: pn)) W0 cf sc.suite := by
        have := s.g.suite (sc' := sc.suite) (z := none) (cf' := cf) (a := a) (pn := (a, oe) :: pn) rfl rfl rfl rfl rfl rfl rfl rfl rfl ⟨rfl, rfl⟩ fun i h => by cases h
        rwa [had] at this
      exact hb ad _ _ _ h2 _ _ _ P ⟨gs, PassesOwn.never, s.pr, s.curp, s.stk, s.frm⟩
    · rename_i k np n b₀ suite p r0 k' i is r' e1
      cases e1
      simp only [Bool.and_eq_true, decide_eq_true_eq, Bool.not_eq_true'] at h
      obtain ⟨⟨⟨⟨⟨⟨rfl, h1⟩, h2⟩, h3⟩, h4⟩, h6⟩, h7⟩ := h
      obtain ⟨n1, n2⟩ := ihr h7
      refine ⟨⟨(prC s h4).1, n1⟩, .cons (n := some n) (i := some i) (s.g.cls h1) ⟨by rw [s.g.hN]; exact h2, ?_⟩ (fun a oe cls d pn hz hf => ⟨fun pins s2 σ H D I hq => ?_⟩) n2⟩
      · show X.env.scope.names.lookup n = _
        rw [s.g.hsc]
        exact h3
      · obtain ⟨x, dd, rfl, rfl, hw⟩ := hq
        refine (hb _ _ _ _ h6 _ _ _ _ ⟨s.g.suite (sc' := sc.suiteN i) (z := some ⟨i, a, dd, x⟩) (cf' := { cf with cur := some x }) (a := a) (pn := (a, oe) :: pn) rfl rfl rfl rfl rfl rfl rfl rfl rfl ⟨rfl, rfl⟩ ?_, PassesOwn.never, by show i :: P.pr = i :: sc.pr; rw [s.pr], fun z e => by cases e; exact List.mem_cons_self, s.stk, s.frm⟩).run pins s2 σ H D I hw
        intro j e x' ex
        cases e
        cases ex
        exact ⟨X, a, dd, oe, pn, rfl, rfl, hz, hf⟩
    · cases h
theorem try_ok {recB : RecS} (hb : ∀ ad, RecSOk ad recB) {st : Stmt} {ib : List IS} {ih : IH} (h : tryC recB sc st ib ih = true) (s : GoodS ad X W cf sc P) : SS ad X W P st (evS cf (.tryx ib ih)) := by
  unfold tryC at h
  split at h
  · simp only [Bool.and_eq_true] at h
    obtain ⟨⟨hc, h1⟩, h2⟩ := h
    obtain ⟨n1, n2⟩ := hds_ok hb s hc h2
    exact ss_tryN s.stk s.frm s.g.nd s.g.tk (s.g.calm hc).2.1 n1 (fun W' pn xe t pw => hb ad _ _ _ h1 _ _ _ P ⟨s.g.tr hc t, pw, s.pr, s.curp, s.stk, s.frm⟩) n2
  · cases h
def raiC (rec : Rec) (sc : Sc) (st : Stmt) (d : XD) (es : List IE) : Bool := match st with
  | .Raise (some (.Call (.Name x _) (a :: as) [] _)) none _ => sc.calm && globC sc x && plainEs (a :: as) && listC rec sc (a :: as) es && (match sc.gl.lookup x with
    | some (.xc d') => decide (d = d')
    | _ => false)
  | _ => false
theorem rai_ok (hr : RecOk ad rec) {st : Stmt} {d : XD} {es : List IE} (h : raiC rec sc st d es = true) (s : GoodS ad X W cf sc P) : SS ad X W P st (evS cf (.rai d es)) := by
  unfold raiC at h
  split at h
  · rename_i x p a as p1 p2
    simp only [Bool.and_eq_true] at h
    obtain ⟨⟨⟨⟨hc, h1⟩, h2⟩, h3⟩, h4⟩ := h
    split at h4
    · rename_i d' hd
      have := of_decide_eq_true h4
      subst this
      obtain ⟨rfl, q2, q3, ⟨k, q4⟩, q5, fI, cc, cda, B, i, nid, bmB, fd, body, scope, T⟩ := s.g.glob _ _ hd
      obtain ⟨g1, g2, g3⟩ := s.g.gl h1
      simp only [plainEs, Bool.and_eq_true] at h2
      exact ss_rai (s.g.calm hc).1 s.g.tk T rfl q3 (q4 hc) (list_ok hr s.g h3) g1 g2 q5 (star_cons h2.1 _) (back_plain h2.2)
    · cases h4
  · cases h
/-- name[k].append('x') -/
def appiC (sc : Sc) (st : Stmt) (i k : Nat) (z : Str) : Bool := match st with
  | .Expr (.Call (.Attribute (.Subscript (.Name x _) (.Constant (.int j) _ _) _) name apos) [.Constant (.str z') _ _] [] cpos) _ => decide (name = ("append" : Str)) && decide (z' = z) && nameC sc x i && decide (j = (k : Int)) && (apos.endLine == cpos.line)
  | _ => false
theorem appi_ok {st : Stmt} {i k : Nat} {z : Str} (h : appiC sc st i k z = true) (s : GoodS ad X W cf sc P) : SS ad X W P st (evS cf (.appi i k z)) := by
  unfold appiC at h
  split at h
  · simp only [Bool.and_eq_true, decide_eq_true_eq] at h
    obtain ⟨⟨⟨⟨rfl, rfl⟩, h1⟩, rfl⟩, h2⟩ := h
    exact (ps_expr (pe_bm PySem.F.plainAttrs_list PySem.F.slot_list_append PySem.F.type_list_append (fun pins s σ H x xs v us Q I r rs q => mt_append pins s σ H x xs v us Q I r rs q) (pe_it (s.g.name h1) pe_int fun _ _ => rfl) (pa_cons pe_str pa_nil rfl) rfl (few1 rfl) h2 rfl rfl) rfl).imp fun D σ H q => rd_appi q
  · cases h
/-- name.f = value -/
def fstC (rec : Rec) (sc : Sc) (i : Nat) (f : Str) (e : IE) (st : Stmt) : Bool := match st with
  | .Assign [.Attribute (.Name x _) f' _] v _ => decide (f' = f) && nameC sc x i && rec false sc v e
  | _ => false
theorem fst_ok (hr : RecOk ad rec) {i : Nat} {f : Str} {e : IE} {st : Stmt} (h : fstC rec sc i f e st = true) (s : GoodS ad X W cf sc P) : SS ad X W P st (evS cf (.fst i f e)) := by
  unfold fstC at h
  split at h
  · rename_i x xp f' p1 v p2
    simp only [Bool.and_eq_true, decide_eq_true_eq] at h
    obtain ⟨⟨rfl, h1⟩, h2⟩ := h
    exact ss_fst (hr _ _ _ _ h2 X W cf s.g) (s.g.name h1) (by cases v <;> rfl)
  · cases h
def stmtC (rec : Rec) (recB : RecS) (sc : Sc) (st : Stmt) : IS → Bool
  | .set i e => setC rec sc i st e
  | .asg tg e => asgC rec sc tg st e
  | .par _ _ => false
  | .raif _ _ => false
  | .fst i f e => fstC rec sc i f e st
  | .aug i o e => augC rec sc i o st e
  | .sub i ix e => subC rec sc i ix e st
  | .app i e => appC rec sc ("append" : Str) i e st
  | .ext i e => appC rec sc ("extend" : Str) i e st
  | .exp e => (match st with
    | .Expr v _ => (scopeOfC v).isNone && rec false sc v e
    | _ => false)
  | .ret e => (match st with
    | .Return (some v) _ => rec false sc v e
    | _ => false)
  | .retN => (match st with
    | .Return none _ => true
    | _ => false)
  | .ife t a b => (match st with
    | .If c p q _ => rec true sc c t && recB sc p a && recB sc q b
    | _ => false)
  | .fors tg src body => (match st with
    | .For t it b [] _ => sc.calm && srcC rec sc t it src && notSet it && tgC 5 sc t tg && tg.slots.all (fun j => !sc.pr.contains j) && recB sc b body
    | _ => false)
  | .forv tg i body => (match st with
    | .For t (.Name x _) b [] _ => sc.calm && nameC sc x i && tgC 5 sc t tg && tg.slots.all (fun j => !sc.pr.contains j) && !tg.slots.contains i && recB { sc with pr := i :: sc.pr } b body
    | _ => false)
  | .whl t body => (match st with
    | .While c b [] _ => rec true sc c t && recB sc b body
    | _ => false)
  | .brk => (match st with
    | .Break _ => true
    | _ => false)
  | .cnt => (match st with
    | .Continue _ => true
    | _ => false)
  | .pas => (match st with
    | .Pass _ => true
    | .Expr (.Constant (.str _) _ _) _ => true
    | _ => false)
  | .rai d es => raiC rec sc st d es
  | .tryx ib ih => tryC recB sc st ib ih
  | .appi i k x => appiC sc st i k x
theorem stmt_ok (hra : ∀ ad, RecOk ad rec) {recB : RecS} (hba : ∀ ad, RecSOk ad recB) {st : Stmt} {is : IS} (h : stmtC rec recB sc st is = true) (s : GoodS ad X W cf sc P) : SS ad X W P st (evS cf is) := by
  have hr := hra ad
  have hb := hba ad
  cases is with
  | set i e => exact set_ok hr h s
  | asg tg e => exact asg_ok hr h s
  | par is es => cases h
  | aug i o e => exact aug_ok hr h s
  | sub i ix e => exact sub_ok hr h s
  | app i e => exact app_ok' hr h s
  | ext i e => exact ext_ok' hr h s
  | exp e =>
    simp only [stmtC] at h
    split at h
    · rw [Bool.and_eq_true] at h
      exact ss_expr (hr _ _ _ _ h.2 X W cf s.g) (sw_drop h.1 _ _)
    · cases h
  | ret e =>
    simp only [stmtC] at h
    split at h
    · exact ss_ret (hr _ _ _ _ h X W cf s.g)
    · cases h
  | retN =>
    simp only [stmtC] at h
    split at h
    · exact ss_retN
    · cases h
  | ife t a b =>
    simp only [stmtC] at h
    split at h
    · simp only [Bool.and_eq_true] at h
      exact ss_if (hr _ _ _ _ h.1.1 X W cf s.g) (hb _ _ _ h.1.2 X W cf P s) (hb _ _ _ h.2 X W cf P s)
    · cases h
  | fors tg src body =>
    simp only [stmtC] at h
    split at h
    · simp only [Bool.and_eq_true] at h
      obtain ⟨⟨⟨⟨⟨hc, h1⟩, h2⟩, h3⟩, h4⟩, h5⟩ := h
      refine ss_for s.pass (s.g.calm hc).1 (src_ok hr h1 s.g) (tg_ok s.g hc 5 h3) (hb _ _ _ h5 X W cf P s) (notSet_ok h2 _) fun j hj => (prC s ?_).1
      have := List.all_eq_true.mp h4 j hj
      simpa using this
    · cases h
  | forv tg i body =>
    simp only [stmtC] at h
    split at h
    · simp only [Bool.and_eq_true, Bool.not_eq_true'] at h
      obtain ⟨⟨⟨⟨⟨hc, h1⟩, h2⟩, h3⟩, h4⟩, h5⟩ := h
      refine ss_forv s.pass (s.g.calm hc).1 (s.g.name h1) (tg_ok s.g hc 5 h2) (fun σ0 => hb _ _ _ h5 X W cf ⟨i :: P.pr, σ0⟩ ⟨s.g.prs _, s.pass, by show i :: P.pr = i :: sc.pr; rw [s.pr], fun z e => List.mem_cons_of_mem _ (s.curp z e), s.stk, s.frm⟩) (fun j hj => (prC s ?_).1) fun z => ?_
      · have := List.all_eq_true.mp h3 j hj
        simpa using this
      · rw [List.contains_iff_mem.mpr z] at h4
        cases h4
    · cases h
  | whl t body =>
    simp only [stmtC] at h
    split at h
    · rw [Bool.and_eq_true] at h
      exact ss_while s.pass (hr _ _ _ _ h.1 X W cf s.g) (hb _ _ _ h.2 X W cf P s)
    · cases h
  | brk =>
    simp only [stmtC] at h
    split at h
    · exact ss_break
    · cases h
  | cnt =>
    simp only [stmtC] at h
    split at h
    · exact ss_continue
    · cases h
  | pas =>
    simp only [stmtC] at h
    split at h
    · exact ss_pass
    · exact ss_doc
    · cases h
  | rai d es => exact rai_ok hr h s
  | raif d e => cases h
  | fst i f e => exact fst_ok hr h s
  | tryx ib ih => exact try_ok hba h s
  | appi i k x => exact appi_ok h s
def blockC (r : Stmt → IS → Bool) : List Stmt → List IS → Bool
  | [], [] => true
  | st :: sts, is :: iss => r st is && blockC r sts iss
  | _, _ => false
def chkB (rec : Rec) : Nat → RecS
  | 0 => fun _ _ _ => false
  | n + 1 => fun sc sts iss => blockC (stmtC rec (chkB rec n) sc) sts iss
theorem chkB_ok (hr : ∀ ad, RecOk ad rec) : ∀ (n : Nat) (ad : Ad), RecSOk ad (chkB rec n)
  | 0, ad => fun sc sts iss h => by cases h
  | n + 1, ad => fun sc sts iss h X W cf P s => by
    have ih := chkB_ok hr n
    change blockC (stmtC rec (chkB rec n) sc) sts iss = true at h
    induction sts generalizing iss with
    | nil =>
      cases iss with
      | nil => exact sb_nil
      | cons => cases h
    | cons st sts ih2 =>
      cases iss with
      | nil => cases h
      | cons is iss =>
        simp only [blockC, Bool.and_eq_true] at h
        exact sb_cons (stmt_ok hr ih h.1 s) (ih2 _ h.2)
end
end Y
end
section
set_option Elab.async false
set_option linter.all false
set_option maxRecDepth 100000
set_option maxHeartbeats 4000000
set_option autoImplicit false
/-! Y16: all the defs of a law keep what the evaluator says of them; the law's end. -/
namespace Y
open PySem L2
variable {ad : Ad}
/-- a def of the text: its key here, its own name, its code's; its parameters -/
structure Ent where
  key : Str
  name : Str
  qual : Str
  top : Bool
  st : Stmt
  N : List Str
  d : SgD
  fd : Fd
def tblOf (es : List Ent) : Tb := fun k => (es.find? fun e => decide (e.key = k)).map (·.fd)
theorem tblOf_mem : ∀ {es : List Ent} {e : Ent}, (es.map (·.key)).Nodup → e ∈ es → tblOf es e.key = some e.fd
  | a :: es, e, nd, h => by
    rw [List.map_cons, List.nodup_cons] at nd
    unfold tblOf
    rw [List.find?_cons]
    by_cases he : a.key = e.key
    · rw [decide_eq_true he]
      rcases List.mem_cons.mp h with rfl | h
      · rfl
      · exact absurd (List.mem_map.mpr ⟨e, h, he.symm⟩) nd.1
    · rw [decide_eq_false he]
      rcases List.mem_cons.mp h with rfl | h
      · exact absurd rfl he
      · exact tblOf_mem nd.2 h
structure Lw where
  es : List Ent
  cs : List (Str × PV)
  bl : List Str
  xs : List XD
  ks : List CK
def Lw.T (l : Lw) : Tb := tblOf l.es
def sigOf (es : List Ent) : Str → Option SgD := fun k => (es.find? fun e => decide (e.key = k)).map (·.d)
theorem sigOf_mem : ∀ {es : List Ent} {k : Str} {d : SgD}, sigOf es k = some d → ∃ e ∈ es, e.key = k ∧ e.d = d := fun {es k d} h => by
  unfold sigOf at h
  obtain ⟨e, h1, h2⟩ := Option.map_eq_some_iff.mp h
  refine ⟨e, List.mem_of_find?_eq_some h1, ?_, h2⟩
  have := List.find?_some h1
  exact of_decide_eq_true this
def Lw.gl (l : Lw) : List (Str × GE) := (l.es.filter (·.top)).map (fun e => (e.key, GE.fn e.key)) ++ (l.cs.map (fun c => (c.1, GE.cst c.2)) ++ (l.xs.map (fun d => (d.cls, GE.xc d)) ++ l.ks.map fun k => (k.cls, GE.cl k)))
def Lw.sc (l : Lw) (e : Ent) : Sc := { N := e.N, scope := defScope e.st, fnS := fun _ => true, gl := l.gl, bl := l.bl, lend := lendOf l.T, pr := protOf e.fd, calm := true, cur := none, sig := sigOf l.es, cks := l.ks }
instance (N P : List Str) (sc : Scope) : Decidable (sc.kind = .function ∧ sc.isCoroutine = false ∧ sc.isGenerator = false ∧ N.Nodup ∧ N.take P.length = P ∧ (∀ x ∈ P, sc.names.lookup x = some .local ∨ sc.names.lookup x = some .cell) ∧ (∀ y ∈ sc.names, y.2 ≠ .free)) := inferInstance
def scopeC (N P : List Str) (sc : Scope) : Bool := decide (sc.kind = .function ∧ sc.isCoroutine = false ∧ sc.isGenerator = false ∧ N.Nodup ∧ N.take P.length = P ∧ (∀ x ∈ P, sc.names.lookup x = some .local ∨ sc.names.lookup x = some .cell) ∧ (∀ y ∈ sc.names, y.2 ≠ .free))
theorem scopeC_ok {N P : List Str} {sc : Scope} (h : scopeC N P sc = true) : FnScope N P sc := by
  obtain ⟨h1, h2, h3, h4, h5, h6, h7⟩ := of_decide_eq_true h
  exact ⟨h1, h2, h3, h4, h5, h6, h7⟩
instance (g : Sig) (p : Arguments) : Decidable (SigOf g p) := by unfold SigOf; exact inferInstance
def Lw.entC (l : Lw) (e : Ent) : Bool := scopeC e.N e.d.g.ps (defScope e.st) && decide (e.fd.n = e.N.length) && decide (e.fd.ps = e.d.g.ps.length) && decide (SigOf e.d.g (defArgs e.st)) && chkB (chk 40) 30 (l.sc e) (defBody e.st) e.fd.body
def Lw.ok (l : Lw) : Prop := (l.es.map (·.key)).Nodup ∧ ∀ e ∈ l.es, l.entC e = true
/-- what K holds of a def's defaults, as the evaluator has them -/
def DflF (K : PySem.W.Frag) (d : SgD) (fdat : FuncData) : Prop := ∃ (du : List Value) (ku : List (Str × Value)) (dV : List V) (kV : List (Str × V)), DflU K fdat du ku ∧ AllR RelV dV du ∧ AllK RelV kV ku ∧ DflR d dV kV
/-- what the module's run has left of a def -/
def EntOk (ad : Ad) (K : PySem.W.Frag) (mg : Str → Option Value) (e : Ent) : Prop := ∃ fdat, FunE K e.name e.qual e.st (ad e.key) fdat ∧ DflF K e.d fdat ∧ (e.top = true → PySem.W.keepIn K (.ref (ad e.key)) = true ∧ mg e.key = some (.ref (ad e.key)))
def ClsF (ad : Ad) (K : PySem.W.Frag) (mg : Str → Option Value) (k : CK) : Prop := mg k.cls = some (.ref (ad k.cls)) ∧ CkOk ad.nm K k
def CstOk (mg : Str → Option Value) (c : Str × PV) : Prop := ∃ u v, mg c.1 = some u ∧ RelV v u ∧ ∀ ad K G, Rep ad K G c.2 v []
/-- what the written part says of a class of errors -/
def XcFact (P : Program) (ad : Ad) (K : PySem.W.Frag) (mg : Str → Option Value) (d : XD) : Prop := mg d.cls = some (.ref (ad d.cls)) ∧ XdOk ad K d ∧ d.fs ≠ [] ∧ ∃ (fI cc cda : Addr) (B i newId : String) (bmB : List Value) (fd : FuncData) (body : List Stmt) (scope : Scope), EX.ExA P K mg d.cls (ad d.cls) fI cc cda B i newId bmB fd d.fs [] body scope
section
variable {P : Program} {w : World} {K : PySem.W.Frag} {mg : Str → Option Value} {base : Heap}
theorem lookup_map_mem {α β : Type} {f : α → Str × β} : ∀ {l : List α} {x : Str} {g : β}, (l.map f).lookup x = some g → ∃ a ∈ l, f a = (x, g)
  | [], x, g, h => by simp at h
  | a :: l, x, g, h => by
    rw [List.map_cons] at h
    rcases hf : f a with ⟨n, b⟩
    rw [hf, List.lookup_cons] at h
    cases hx : x == n with
    | true =>
      rw [hx] at h
      cases h
      rw [eq_of_beq hx]
      exact ⟨a, List.mem_cons_self, hf⟩
    | false =>
      rw [hx] at h
      obtain ⟨a', h1, h2⟩ := lookup_map_mem h
      exact ⟨a', List.mem_cons_of_mem _ h1, h2⟩
theorem lookup_app {β : Type} : ∀ {l m : List (Str × β)} {x : Str} {g : β}, (l ++ m).lookup x = some g → l.lookup x = some g ∨ m.lookup x = some g
  | [], m, x, g, h => .inr h
  | (n, b) :: l, m, x, g, h => by
    rw [List.cons_append, List.lookup_cons] at h
    rw [List.lookup_cons]
    cases hx : x == n with
    | true => rw [hx] at h; exact .inl h
    | false => rw [hx] at h; exact lookup_app h
theorem fn_bad {x qual : Str} {st : Stmt} {f : Addr} {fd : FuncData} {N ps : List Str} {call : List PV → CR} {k : Nat} (F : FunE K x qual st f fd) (S : FnScope N ps (defScope st)) (h : ∀ as, call as = .bad) : FnU P w K mg base (L2.CX P w) (k + 1) f fd ps (SpOf ad K call) := by
  obtain ⟨oc, od, dV, kV, doc, pm, an, cdv, ct, osl, rfl, lk, hcd⟩ := F.ex
  refine FnU.mk lk hcd S fun A outer s H vs Q E hr ⟨as, G, c, r', hh, a⟩ => ?_
  rw [h] at a
  exact a.elim
/-- every def, at every depth of calls -/
theorem all_ok (hcur : ad.cur = none) {l : Lw} (hl : l.ok) (hck : ad.nm.cks = l.ks) (hE : ∀ e ∈ l.es, EntOk ad K mg e) (hc : ∀ c ∈ l.cs, CstOk mg c) (hbl : ∀ x ∈ l.bl, mg x = none) (hxs : ∀ d ∈ l.xs, XcFact P ad K mg d) (hks : ∀ k ∈ l.ks, ClsF ad K mg k) (fuel : Nat) : ∀ n : Nat, ∀ e ∈ l.es, ∀ fdat, FunE K e.name e.qual e.st (ad e.key) fdat →
    FnU P w K mg base (L2.CX P w) (2 * n + 2) (ad e.key) fdat e.d.g.ps (SpOf ad K (callN l.T fuel n e.key))
  | 0, e, he, fdat, F => by
    have ec := hl.2 e he
    simp only [Lw.entC, Bool.and_eq_true, decide_eq_true_eq] at ec
    exact fn_bad F (scopeC_ok ec.1.1.1.1) fun as => rfl
  | n + 1, e, he, fdat, F => by
    have hbase : ad.base = ad := by
      obtain ⟨f, c⟩ := ad
      cases hcur
      rfl
    have ih := all_ok hcur hl hck hE hc hbl hxs hks fuel n
    have ec := hl.2 e he
    simp only [Lw.entC, Bool.and_eq_true, decide_eq_true_eq] at ec
    obtain ⟨⟨⟨⟨h1, h2⟩, h3⟩, _⟩, h4⟩ := ec
    have hT : l.T e.key = some e.fd := tblOf_mem hl.1 he
    have hrun : callN l.T fuel (n + 1) e.key = runF ⟨callN l.T fuel n, lendOf l.T, fuel, none⟩ e.fd := by
      funext as
      simp only [callN, hT]
    rw [hrun]
    refine fn_run hcur F (scopeC_ok h1) h2 h3 fun X cdv A outer s H vs E hX hr tk pass => ?_
    subst hX
    have g : Good ad (cxOf (L2.CX P w) P w K mg base e.N e.qual (defScope e.st) (ad e.key) cdv A outer s H E) (fun cls d _ H => E cls d H) ⟨callN l.T fuel n, lendOf l.T, fuel, none⟩ (l.sc e) := by
      refine ⟨rfl, (scopeC_ok h1).nd, rfl, fun _ _ => rfl, fun _ => ⟨rfl, hcur, rfl⟩, fun i h => (by cases h), ?_, tk, hbl, fun x ge hx => ?_, rfl, fun k d hd => ?_, hck⟩
      · have := hr.un
        omega
      · rcases lookup_app hx with hx | hx
        · obtain ⟨e', he', e2⟩ := lookup_map_mem hx
          cases e2
          obtain ⟨he1, he2⟩ := List.mem_filter.mp he'
          obtain ⟨fdat', F', b1, b3⟩ := hE e' he1
          exact ⟨(b3 he2).2, (b3 he2).1⟩
        · rcases lookup_app hx with hx | hx
          · obtain ⟨c, hcm, e2⟩ := lookup_map_mem hx
            cases e2
            obtain ⟨u, v, m, r, z⟩ := hc c hcm
            exact ⟨u, v, m, r, fun G => z ad K G⟩
          · rcases lookup_app hx with hx | hx
            · obtain ⟨d, hdm, e2⟩ := lookup_map_mem hx
              cases e2
              obtain ⟨z1, z2, z3, z4⟩ := hxs d hdm
              exact ⟨rfl, z1, z2, ⟨2 * n + 1, fun _ => hr⟩, z3, z4⟩
            · obtain ⟨d, hdm, e2⟩ := lookup_map_mem hx
              cases e2
              exact hks d hdm
      · obtain ⟨e', he', rfl, rfl⟩ := sigOf_mem hd
        obtain ⟨fdat', F', ⟨du, ku, dV, kV, b1, b2, b3, b4⟩, b5⟩ := hE e' he'
        have ec' := hl.2 e' he'
        simp only [Lw.entC, Bool.and_eq_true, decide_eq_true_eq] at ec'
        have sg : SigOf e'.d.g fdat'.params := by
          obtain ⟨_, _, _, _, _, _, _, _, _, _, rfl, _, _⟩ := F'.ex
          exact ec'.1.2
        exact ⟨2 * n + 2, fdat', dV, kV, by rw [hbase]; exact ih e' he' fdat' F', ⟨sg, du, ku, b1, b2, b3⟩, b4, fun _ => hr⟩
    exact chkB_ok (fun _ => chk_ok 40) 30 _ _ _ _ h4 _ _ _ _ ⟨g, pass, rfl, fun z e => (by rw [hcur] at e; cases e), rfl, rfl⟩
end
/-- the law's promise from a run of the evaluator -/
theorem law_sp {K : PySem.W.Frag} {H : Hp} {a : Addr} {ns : List Int} {call : List PV → CR} (hS : SqL K H a (ns.map V.int)) (h : ∃ as, call [.lck (ns.map .int)] = .ok (.bl true) as) : SpOf ad K call [.ref a] H (fun v _ => v = .bl true) fun _ _ _ => False := by
  obtain ⟨as, h⟩ := h
  have hr : ∀ ms : List Int, RepL ad K H (ms.map PV.int) (ms.map V.int) [] := fun ms => by
    induction ms with
    | nil => exact .nil
    | cons m ms ih => exact RepL.cons0 (.int m) ih
  refine ⟨[.lck (ns.map .int)], H, [], RepL.cons0 (.lck hS (hr ns)) .nil, ⟨Sub.refl H, (fun z hz => nomatch hz), (fun z hz => nomatch hz), List.nodup_nil⟩, ?_⟩
  rw [h]
  intro v H' G' c' t s sl hh r
  cases r
  rfl
theorem noCX {P : Program} {w : World} {H : Hp} {s s' : Shared} {e : Value} (h : L2.CX P w [] H s (fun _ _ _ => False) e s') : False := by
  obtain ⟨_, _, _, _, _, _, _, _, _, _, _, _, z⟩ := h
  exact z
end Y
end
section
set_option Elab.async false
set_option linter.all false
set_option maxRecDepth 100000
set_option maxHeartbeats 4000000
set_option autoImplicit false
/-! Y17: the law's end. -/
namespace Y
open PySem L2
/-- where a key stands: a name of the module, else as listed -/
def adF (mg : Str → Option Value) (dl : List (Str × Addr)) : Str → Addr := fun k => match mg k with
  | some (.ref a) => a
  | _ => (dl.lookup k).getD 0
def adOf (mg : Str → Option Value) (dl : List (Str × Addr)) (cks : List CK) : Ad := ⟨⟨adF mg dl, cks⟩, none⟩
section
variable {dl : List (Str × Addr)} {cks : List CK} {mg : Str → Option Value}
theorem adOf_at {x : Str} {f : Addr} (h : mg x = some (.ref f)) : adOf mg dl cks x = f := by
  show adF mg dl x = f
  unfold adF
  rw [h]
theorem adOf_in {x : Str} {f : Addr} (h : mg x = none) (e : dl.lookup x = some f) : adOf mg dl cks x = f := by
  show adF mg dl x = f
  unfold adF
  rw [h, e]
  rfl
end
section
variable {K : PySem.W.Frag} {h : Heap} {mg : Str → Option Value} {ad : Ad}
/-- a def's place, from facts that k_is answers -/
theorem ent_top {x : Str} {st : Stmt} {N : List Str} {d : SgD} {fd : Fd} (X : K.In h) (G : h.Ns mainGlobals mg) {f : Addr} {od an : Option Addr} {sl : Array (Option Value)} {oc dV kV dc pm cd ct : Value} {dl : List (Str × Addr)} {cks : List CK} (a : PySem.W.nsIn K mainGlobals x = some (some (.ref f)))
    (l : K.lookup f = some ⟨oc, od, .func (PySem.W.fnOf x x (defArgs st) (defBody st) (defScope st) dV kV dc pm an cd ct), sl⟩) (c : PySem.W.codeIn K cd x = true) (k : PySem.W.keepIn K (.ref f) = true)
    (hd : DflF K d (PySem.W.fnOf x x (defArgs st) (defBody st) (defScope st) dV kV dc pm an cd ct)) : EntOk (adOf mg dl cks) K mg ⟨x, x, x, true, st, N, d, fd⟩ := by
  have m := PySem.W.mg_of X G a
  have e : adOf mg dl cks x = f := adOf_at m
  exact ⟨_, ⟨⟨oc, od, dV, kV, dc, pm, an, cd, ct, sl, rfl, by rw [e]; exact l, c⟩⟩, hd, fun _ => by rw [e]; exact ⟨k, m⟩⟩
theorem ent_in {key x qual : Str} {st : Stmt} {N : List Str} {d : SgD} {fd : Fd} {f : Addr} {od an : Option Addr} {sl : Array (Option Value)} {oc dV kV dc pm cd ct : Value} (e : ad key = f)
    (l : K.lookup f = some ⟨oc, od, .func (PySem.W.fnOf x qual (defArgs st) (defBody st) (defScope st) dV kV dc pm an cd ct), sl⟩) (c : PySem.W.codeIn K cd qual = true)
    (hd : DflF K d (PySem.W.fnOf x qual (defArgs st) (defBody st) (defScope st) dV kV dc pm an cd ct)) : EntOk ad K mg ⟨key, x, qual, false, st, N, d, fd⟩ := by
  exact ⟨_, ⟨⟨oc, od, dV, kV, dc, pm, an, cd, ct, sl, rfl, by rw [e]; exact l, c⟩⟩, hd, fun z => by cases z⟩
/-- the law's end: sig of one parameter, no default -/
theorem law_end {P : Program} {w : World} {l : Lw} {e : Ent} {fa : Addr} {x : Str} {dl : List (Str × Addr)} (hl : l.ok) (he : e ∈ l.es) (htop : e.top = true) (hps : e.d = ⟨⟨[x], [], none⟩, [], []⟩) (hfp : e.fd.ps = 1) (hF : ∀ e ∈ l.es, EntOk (adOf mg dl l.ks) K mg e) (hb0 : ∃ (f : Addr) (fdat : FuncData) (oc : Value) (od : Option Addr) (osl : Array (Option Value)), mg e.key = some (.ref f) ∧ K.lookup f = some ⟨oc, od, .func fdat, osl⟩ ∧ ∀ u : Value, bindArgs fdat ⟨[u], []⟩ = pure [(x, u)]) (hc : ∀ c ∈ l.cs, CstOk mg c) (hbl : ∀ x ∈ l.bl, mg x = none) (hxs : ∀ d ∈ l.xs, XcFact P (adOf mg dl l.ks) K mg d) (hks : ∀ k ∈ l.ks, ClsF (adOf mg dl l.ks) K mg k) (hmg : mg e.key = some (.ref fa))
    (fuel n : Nat) (hp : ∀ ns : List Int, ns.length ≤ 63 → ∃ as, callN l.T fuel n e.key [.lck (ns.map .int)] = .ok (.bl true) as) :
    ∃ (fd : FuncData) (sp : Sp), (∀ (s : Shared) (u : Value), BindsTo s fd ⟨[u], []⟩ [(x, u)]) ∧
        (∀ (H : Hp) (a : Addr) (ns : List Int), ns.length ≤ 63 → Only H → SqL K H a (ns.map V.int) → sp [.ref a] H (fun v _ => v = .bl true) fun _ _ _ => False) ∧
        ∀ base : Heap, K.In base → base.Ns mainGlobals mg → FnOk P w K mg base (L2.CX P w) (2 * n + 2) fa fd [x] sp := by
  obtain ⟨fdat, F, hd, ht⟩ := hF e he
  have ea : adOf mg dl l.ks e.key = fa := adOf_at hmg
  refine ⟨fdat, SpOf (adOf mg dl l.ks) K (callN l.T fuel n e.key), fun s u => .of_eq ?_, fun H a ns hl hO hS => law_sp hS (hp ns hl), fun base h1 h2 => ?_⟩
  · obtain ⟨f, fd2, oc, od, osl, m1, m2, m3⟩ := hb0
    obtain ⟨oc2, od2, _, _, _, _, _, _, _, osl2, _, lk, _⟩ := F.ex
    have ef : f = fa := Value.ref.inj (Option.some.inj (m1.symm.trans hmg))
    rw [ea, ← ef, m2] at lk
    cases lk
    exact m3 u
  · have ao := all_ok (P := P) (w := w) (base := base) rfl hl rfl hF hc hbl hxs hks fuel n e he fdat F
    rw [ea] at ao
    have e2 : e.d.g.ps = [x] := by rw [hps]; rfl
    rw [e2] at ao
    refine ao.ok fun vs H Q E ⟨as, G, c, r, hh, a⟩ => ?_
    cases n with
    | zero => exact a.elim
    | succ n =>
      have hT : l.T e.key = some e.fd := tblOf_mem hl.1 he
      simp only [callN, hT] at a
      by_cases hla : as.length = e.fd.ps
      · rw [← r.length, hla, hfp]
        rfl
      · rw [runF_len hla] at a
        exact a.elim
end
theorem cst_int {mg : Str → Option Value} {x : Str} {i : Int} {t : Nat} (h : mg x = some (.int i t)) : CstOk mg (x, .int i) := ⟨_, .int i, h, ⟨t, rfl⟩, fun _ _ _ => .int i⟩
theorem cst_str {mg : Str → Option Value} {x : Str} {i : Str} {t : Nat} (h : mg x = some (.str i t)) : CstOk mg (x, .str i) := ⟨_, .str i, h, ⟨t, rfl⟩, fun _ _ _ => .str i⟩
/-- the goal that the head leaves, from a law's end by its written part -/
theorem walk_y {l : PySem.W.OpenLaw} {k n : Nat} {q : Program} {loose : List Str} {XP : (Str → Option Value) → Heap → Prop} {YP : World → Heap → Prop} {d : DefRec} {x : Str}
    (hn : l.most = some n) (hn2 : n ≤ sizeLine) (hdf : d.params.defaults = []) (hr : Room k callerA)
    (F : ∀ (w : World) (mg : Str → Option Value) (fa : Addr) (h : Heap), YP w h → h.Ns mainGlobals mg → mg d.name = some (.ref fa) → ∃ K : PySem.W.Frag, K.In h ∧ ∃ (fd : FuncData) (sp : Sp), (∀ (s : Shared) (u : Value), BindsTo s fd ⟨[u], []⟩ [(x, u)]) ∧
        (∀ (H : Hp) (a : Addr) (ns : List Int), ns.length ≤ n → Only H → SqL K H a (ns.map V.int) → sp [.ref a] H (fun v _ => v = .bl true) fun _ _ _ => False) ∧
        ∀ base : Heap, K.In base → base.Ns mainGlobals mg → FnOk l.prog w K mg base (L2.CX l.prog w) k fa fd [x] sp) :
    PySem.W.WalkO q loose XP YP l.row.toRowW d [] (fun f vs => PySem.call f vs) := by
  refine Att.attach_call hn hdf fun w s0 s1 mg mb fa o pm cd doc a vs ns G z ho hd hcd hmg hobj hints hlen hg => ?_
  obtain ⟨K, kx, fd, sp, hb, hsp, hF⟩ := F w mg fa _ z G.T.g hmg
  exact law_call kx G.T.g G.T.b G.T.builtins G.T.nolimit hg hobj hints (Nat.le_trans hlen hn2) hr hF hb
    (fun H hO hS => hsp H a ns hlen hO hS) (fun H e s2 c => noCX c)
end Y
end
section
set_option Elab.async false
set_option linter.all false
set_option maxRecDepth 100000
set_option maxHeartbeats 2000000
set_option autoImplicit false
/-! X1: what the written part says of a class of errors, from facts that k_is answers. -/
namespace Y
open PySem L2 PySem.W
/-- __init__ of a class whose body is it alone -/
def iniOf : Stmt → Stmt
  | .ClassDef _ _ _ [f] _ _ _ _ _ _ _ => f
  | s => s
def TakeP (K : Frag) (C : Addr) : List Str → Prop
  | [] => True
  | f :: r => takerIn K C f = some none ∧ findIn K (.ref C) f = some none ∧ TakeP K C r
theorem TakeP.at {K : Frag} {C : Addr} : ∀ {fs : List Str}, TakeP K C fs → ∀ f ∈ fs, takerIn K C f = some none ∧ findIn K (.ref C) f = some none
  | [], _, _, h => by cases h
  | g :: r, ⟨h1, h2, h3⟩, f, h => by
    rcases List.mem_cons.mp h with rfl | h
    · exact ⟨h1, h2⟩
    · exact TakeP.at h3 f h
def RelsP (K : Frag) (C : Addr) : List (Str × Bool) → Prop
  | [] => True
  | (k, b) :: r => (∃ D, nsIn K mainGlobals k = some (some (.ref D)) ∧ subIn K (.ref D) (.type "BaseException") = some true ∧ hasDictIn K D = true ∧ typeIn K (.ref D) = some (.type "type") ∧ subIn K (.ref C) (.ref D) = some b) ∧ RelsP K C r
theorem RelsP.at {K : Frag} {h : Heap} {mg : Str → Option Value} {dl : List (Str × Addr)} {cks : List CK} (X : K.In h) (G : h.Ns mainGlobals mg) {C : Addr} : ∀ {l : List (Str × Bool)}, RelsP K C l → ∀ k b, l.lookup k = some b → exmOne K (.ref C) (.ref (adOf mg dl cks k)) = some b
  | [], _, k, b, h => by simp at h
  | (k', b') :: r, ⟨⟨D, h1, h2, h3, h4, h5⟩, hr⟩, k, b, h => by
    rw [List.lookup_cons] at h
    cases e : k == k' with
    | true =>
      rw [e] at h
      cases h
      cases eq_of_beq e
      rw [adOf_at (mg_of X G h1)]
      exact exm_ref h2 h3 h4 h5
    | false =>
      rw [e] at h
      exact RelsP.at X G hr k b h
def TysP (K : Frag) (C : Addr) : List (String × Bool) → Prop
  | [] => True
  | (t, b) :: r => (kitMeta t = true ∧ subIn K (.ref C) (.type t) = some b) ∧ TysP K C r
theorem TysP.at {K : Frag} {C : Addr} : ∀ {l : List (String × Bool)}, TysP K C l → ∀ t b, l.lookup t = some b → kitOne K (.ref C) (.type t) = some b
  | [], _, t, b, h => by simp at h
  | (t', b') :: r, ⟨⟨h1, h2⟩, hr⟩, t, b, h => by
    rw [List.lookup_cons] at h
    cases e : t == t' with
    | true =>
      rw [e] at h
      cases h
      rw [eq_of_beq e]
      show (if ((Value.ref C : Value) == Value.type t') = true then _ else (if kitMeta t' = true then subIn K (.ref C) (.type t') else none)) = _
      rw [if_neg (by intro z; cases (beq_iff_eq.mp z)), if_pos h1]
      exact h2
    | false =>
      rw [e] at h
      exact TysP.at hr t b h
theorem xc_mk {P : Program} {K : Frag} {h : Heap} {mg : Str → Option Value} {dl : List (Str × Addr)} {cks : List CK} (X : K.In h) (G : h.Ns mainGlobals mg) {d : XD} {st : Stmt} {B i newId : String} {bmB : List Value} {qual : Str} {C fI cc cda : Addr} {oc doc pm ct : Value} {od an : Option Addr} {osl ccs csl : Array (Option Value)}
    {ccl cl : Value} {cdd cld : Option Addr} {vs : Array Value} {file : Str} {tf : Nat} {dV kV : Value}
    (FB : ExcBaseFacts B newId i bmB) (SF : StoreFacts B bmB "object.__setattr__" "object") (KF : KxsFacts B i)
    (aC : nsIn K mainGlobals d.cls = some (some (.ref C))) (ini : excInitIn K C bmB newId = true) (over : excOver K C bmB = true) (sup : ks_superIn K C C "__init__" = some (some (.builtin i)))
    (sa : findIn K (.ref C) "__setattr__" = some (some (.builtin "object.__setattr__"))) (hd : hasDictIn K C = true) (subB : subIn K (.ref C) (.type B) = some true)
    (iC : findIn K (.ref C) "__init__" = some (some (.ref fI)))
    (lk : K.lookup fI = some ⟨oc, od, .func (ksFn "__init__" qual (defArgs (iniOf st)) (defBody (iniOf st)) (defScope (iniOf st)) dV kV doc pm an (.ref cda) ct cc), osl⟩)
    (cd : codeIn K (.ref cda) qual = true) (lc : K.lookup cda = some ⟨ccl, cdd, .fields vs, ccs⟩) (v2 : vs[2]? = some (.str file tf)) (hf : ((P.main.file : Str) == file) = true)
    (cell : K.lookup cc = some ⟨cl, cld, .cell (some (.ref C)), csl⟩) (top : (P.main.scope.names.lookup ("super" : Str)).isSome = false)
    (hhead : ∃ ar, ((defArgs (iniOf st)).posonlyargs ++ (defArgs (iniOf st)).args).head? = some ar ∧ ar.arg = ("self" : Str)) (bdy : EX.exBody d.fs (defBody (iniOf st)) = true)
    (hs : (defScope (iniOf st)).kind = .function ∧ (defScope (iniOf st)).isCoroutine = false ∧ (defScope (iniOf st)).isGenerator = false ∧ (∀ x ∈ (defScope (iniOf st)).names, x.2 ≠ .cell) ∧ (defScope (iniOf st)).names.lookup ("super" : Str) = some .globalImplicit ∧ (defScope (iniOf st)).names.lookup ("__class__" : Str) = some .free ∧ (defScope (iniOf st)).names.lookup ("self" : Str) = some .local)
    (hs2 : (∀ f ∈ d.fs, (defScope (iniOf st)).names.lookup f = some .local ∧ (f == ("__debug__" : Str)) = false) ∧ ("self" :: d.fs : List Str).Nodup ∧ d.fs.length ≤ 800 ∧ d.fs ≠ [])
    (tk : TakeP K C d.fs) (opq : nsIn K cStatics "thirdparty.any" = some none) (mgs : nsIn K mainGlobals "super" = some none) (msub : mroIn K C (.ref C) = some true)
    (tI : typeIn K (.ref fI) = some (.type "function")) (kC : keepIn K (.ref C) = true) (exC : subIn K (.ref C) (.type "BaseException") = some true) (tyC : typeIn K (.ref C) = some (.type "type"))
    (hb : ∀ us : List Value, us.length = d.fs.length + 1 → bindArgs (ksFn "__init__" qual (defArgs (iniOf st)) (defBody (iniOf st)) (defScope (iniOf st)) dV kV doc pm an (.ref cda) ct cc) ⟨us, []⟩ = pure ((("self" : Str) :: d.fs).zip us))
    (ga : findIn K (.ref C) "__getattribute__" = some (some (.builtin "BaseException.__getattribute__"))) (gg : findIn K (.ref C) "__getattr__" = some none)
    (ha : findIn K (.ref C) "__class__" = some (some (.builtin "object.__class__"))) (hn : specialIn K (.builtin "object.__class__") "__get__" = some (some (.builtin "getset_descriptor.__get__"))) (ht : takesIn K (.builtin "object.__class__") = some true) (hm : mroIn K C (.type "object") = some true)
    (rel : RelsP K C d.rel) (ty : TysP K C d.ty) : XcFact P (adOf mg dl cks) K mg d := by
  have gC := mg_of X G aC
  have eC : adOf mg dl cks d.cls = C := adOf_at gC
  refine ⟨by rw [eC]; exact gC, ?_, hs2.2.2.2, fI, cc, cda, B, i, newId, bmB, ksFn "__init__" qual (defArgs (iniOf st)) (defBody (iniOf st)) (defScope (iniOf st)) dV kV doc pm an (.ref cda) ct cc, defBody (iniOf st), defScope (iniOf st), ?_⟩
  · constructor
    · rw [eC]; exact ⟨ga, gg, exC, hd⟩
    · rw [eC]; exact ⟨ga, gg, exC, hd, ha, hn, ht, hm⟩
    · rw [eC]; exact fun f hf => (tk.at f hf).2
    · rw [eC]; exact RelsP.at X G rel
    · rw [eC]; exact TysP.at ty
  · rw [eC]
    refine ⟨⟨FB, SF, KF, ini, over, sup, sa, hd, subB⟩, ⟨⟨oc, od, osl, lk⟩, ?_, ⟨ccl, cdd, vs, ccs, file, tf, lc, v2, hf⟩, ⟨cl, cld, csl, cell⟩, top, bdy, hs.1, hs.2.1, hs.2.2.1, hs.2.2.2.1, hs.2.2.2.2.1, hs.2.2.2.2.2.1, hs.2.2.2.2.2.2, fun f hf => ⟨(hs2.1 f hf).1, (tk.at f hf).1, (hs2.1 f hf).2⟩, hs2.2.1, hs2.2.2.1, opq, mg_none_of X G mgs, msub⟩, iC, tI, kC, exC, tyC, gC, fun s x us hl => ?_⟩
    · obtain ⟨ar, h1, h2⟩ := hhead
      exact ⟨qual, _, dV, kV, doc, pm, an, ct, ar, rfl, cd, h1, h2⟩
    · refine .of_eq ?_
      rw [List.append_nil]
      exact hb (.ref x :: us) (by simpa using hl)
/-! ### classes -/
/-- the ancestors (and others) of the text -/
def UpP (K : Frag) (C : Addr) : List (Str × Bool) → Prop
  | [] => True
  | (c, b) :: r => (∃ D, nsIn K mainGlobals c = some (some (.ref D)) ∧ isClsIn K D = true ∧ typeIn K (.ref D) = some (.type "type") ∧ subIn K (.ref C) (.ref D) = some b) ∧ UpP K C r
def NoP (K : Frag) (C : Addr) : List Str → Prop
  | [] => True
  | f :: r => findIn K (.ref C) f = some none ∧ NoP K C r
def SlotP (K : Frag) (C : Addr) : List (Str × Nat) → Prop
  | [] => True
  | (f, i) :: r => (∃ p, SlX.Slot1 K C f p i) ∧ SlotP K C r
def ShP (K : Frag) (C : Addr) (fn : List Str) : Option (List Nat) → Prop
  | none => hasDictIn K C = true ∧ NoP K C fn
  | some ps => SlotP K C (fn.zip ps)
def NkP (K : Frag) (C : Addr) : List String → Prop
  | [] => True
  | t :: r => subIn K (.type t) (.ref C) = some false ∧ NkP K C r
/-- a name of a class, its def at f -/
def MsF (K : Frag) (C : Addr) (m : Str) (f : Addr) : MR → Prop
  | .df _ => Meth K C m f ∧ fnIn K f = true
  | .cs s => (∃ u, Con K C m (.str s) u) ∧ ∃ mc u, ClX.CRead K C mc ∧ ClX.CVal K C mc m (.str s) u
  | .cm _ => ∃ mc p, ClX.CRead K C mc ∧ ClX.CMet K C mc m p f
  | .sm _ => ∃ mc p rest, ClX.CRead K C mc ∧ findCls K (.ref C) mc m = some (.get (.builtin "staticmethod.__get__") (.ref p) .none (.ref C)) ∧ recIn K p "staticmethod" = some (.ref f :: rest) ∧ keepIn K (.ref f) = true
  | .pr _ => ∃ p, PropOf K C m p f
def MR.key : MR → Option Str
  | .df k => some k
  | .cm k => some k
  | .sm k => some k
  | .pr k => some k
  | .cs _ => none
theorem MsF.ok {K : Frag} {C : Addr} {m : Str} {f : Addr} {fn : Str → Addr} {r : MR} (h : MsF K C m f r) (e : ∀ k, r.key = some k → fn k = f) : MsOk fn K C m r := by
  cases r with
  | cs s => exact h
  | df k => rw [← e k rfl] at h; exact h
  | cm k => rw [← e k rfl] at h; exact h
  | sm k => rw [← e k rfl] at h; exact h
  | pr k => rw [← e k rfl] at h; exact h
def MsP (fn : Str → Addr) (K : Frag) (C : Addr) : List (Str × MR) → Prop
  | [] => True
  | (m, r) :: t => MsOk fn K C m r ∧ MsP fn K C t
theorem MsP.at {fn : Str → Addr} {K : Frag} {C : Addr} : ∀ {l : List (Str × MR)}, MsP fn K C l → ∀ m r, l.lookup m = some r → MsOk fn K C m r
  | [], _, m, r, h => by simp at h
  | (m', r') :: t, ⟨h1, h2⟩, m, r, h => by
    rw [List.lookup_cons] at h
    cases e : m == m' with
    | true =>
      rw [e] at h
      cases h
      rw [eq_of_beq e]
      exact h1
    | false =>
      rw [e] at h
      exact MsP.at h2 m r h
theorem kit_of {K : Frag} {C : Addr} {t : Value} {b : Bool} (hne : t ≠ .ref C ∨ b = true) (ic : isClsIn K C = true) (tC : typeIn K (.ref C) = some (.type "type")) (s : subIn K t (.ref C) = some b) : kitOne K t (.ref C) = some b := by
  unfold kitOne
  split
  · rename_i h
    rcases hne with hne | rfl
    · exact absurd (beq_iff_eq.mp h) hne
    · rfl
  · unfold kitCls
    dsimp only
    rw [if_pos]
    · exact s
    · rw [Bool.and_eq_true]
      exact ⟨ic, by rw [tC]; rfl⟩
theorem UpP.at {K : Frag} {h : Heap} {mg : Str → Option Value} {dl : List (Str × Addr)} {cks : List CK} (X : K.In h) (G : h.Ns mainGlobals mg) {C : Addr} (hself : subIn K (.ref C) (.ref C) = some true) : ∀ {l : List (Str × Bool)}, UpP K C l → ∀ c b, l.lookup c = some b → kitOne K (.ref C) (.ref (adOf mg dl cks c)) = some b ∧ subIn K (.ref C) (.ref (adOf mg dl cks c)) = some b
  | [], _, c, b, h => by simp at h
  | (c', b') :: r, ⟨⟨D, h1, h2, h3, h4⟩, hr⟩, c, b, h => by
    rw [List.lookup_cons] at h
    cases e : c == c' with
    | true =>
      rw [e] at h
      cases h
      cases eq_of_beq e
      rw [adOf_at (mg_of X G h1)]
      refine ⟨kit_of ?_ h2 h3 h4, h4⟩
      by_cases hcd : C = D
      · subst hcd
        rw [hself] at h4
        cases h4
        exact .inr rfl
      · exact .inl fun z => hcd (Value.ref.inj z)
    | false =>
      rw [e] at h
      exact UpP.at X G hself hr c b h
theorem NoP.at {K : Frag} {C : Addr} : ∀ {l : List Str}, NoP K C l → ∀ f ∈ l, NoAttr K C f
  | [], _, f, h => by cases h
  | g :: r, ⟨h1, h2⟩, f, h => by
    rcases List.mem_cons.mp h with rfl | h
    · exact h1
    · exact NoP.at h2 f h
theorem SlotP.at {K : Frag} {C : Addr} : ∀ {fn : List Str} {ps : List Nat}, SlotP K C (fn.zip ps) → ∀ (j : Nat) (f : Str) (i : Nat), fn[j]? = some f → ps[j]? = some i → ∃ p, SlX.Slot1 K C f p i
  | [], _, _, j, f, i, h, _ => by simp at h
  | _ :: _, [], _, j, f, i, _, h => by simp at h
  | g :: fn, k :: ps, ⟨h1, h2⟩, 0, f, i, e1, e2 => by
    cases e1
    cases e2
    exact h1
  | g :: fn, k :: ps, ⟨h1, h2⟩, j + 1, f, i, e1, e2 => SlotP.at h2 j f i (by simpa using e1) (by simpa using e2)
def BtP (K : Frag) (C : Addr) : List String → Prop
  | [] => True
  | t :: r => subIn K (.ref C) (.type t) = some false ∧ BtP K C r
theorem BtP.at {K : Frag} {C : Addr} : ∀ {l : List String}, BtP K C l → ∀ t ∈ l, subIn K (.ref C) (.type t) = some false
  | [], _, f, h => by cases h
  | g :: r, ⟨h1, h2⟩, f, h => by
    rcases List.mem_cons.mp h with rfl | h
    · exact h1
    · exact BtP.at h2 f h
theorem isi_meta : ∀ t ∈ isiOk, kitMeta t = true := by decide +kernel
theorem NkP.at {K : Frag} {C : Addr} : ∀ {l : List String}, NkP K C l → ∀ t ∈ l, subIn K (.type t) (.ref C) = some false
  | [], _, f, h => by cases h
  | g :: r, ⟨h1, h2⟩, f, h => by
    rcases List.mem_cons.mp h with rfl | h
    · exact h1
    · exact NkP.at h2 f h
/-- what the checker asks of a class's record -/
def ckC (k : CK) : Bool := decide k.fn.Nodup && decide (k.fn.length < 900) && (match k.sl with
  | none => true
  | some ps => decide (ps.length = k.fn.length) && decide ps.Nodup)
theorem ck_mk {K : Frag} {h : Heap} {mg : Str → Option Value} {dl : List (Str × Addr)} {cks : List CK} (X : K.In h) (G : h.Ns mainGlobals mg) {k : CK} {C : Addr} (aC : nsIn K mainGlobals k.cls = some (some (.ref C)))
    (pg : plainGet K C Str.empty = true) (ic : isClsIn K C = true) (po : plainOver K C = true) (sa : findIn K (.ref C) "__setattr__" = some (some (.builtin "object.__setattr__")))
    (mki : makesIn K C = true) (kp : keepIn K (.ref C) = true) (tC : typeIn K (.ref C) = some (.type "type")) (self : subIn K (.ref C) (.ref C) = some true)
    (cc : findIn K (.ref C) "__class__" = some (some (.builtin "object.__class__"))) (cg : specialIn K (.builtin "object.__class__") "__get__" = some (some (.builtin "getset_descriptor.__get__"))) (ct : takesIn K (.builtin "object.__class__") = some true) (co : mroIn K C (.type "object") = some true)
    (bt : BtP K C isiOk) (nk : NkP K C ["NoneType", "bool", "int", "str", "list", "tuple"]) (up : UpP K C k.up) (sh : ShP K C k.fn k.sl) (ms : MsP (adOf mg dl cks).nm.fn K C k.ms) (hk : ckC k = true) (mem : k ∈ cks) : ClsF (adOf mg dl cks) K mg k := by
  have gC := mg_of X G aC
  have eC : (adOf mg dl cks).nm.fn k.cls = C := adOf_at gC
  simp only [ckC, Bool.and_eq_true, decide_eq_true_eq] at hk
  obtain ⟨⟨k1, k2⟩, k3⟩ := hk
  refine ⟨by rw [show adOf mg dl cks k.cls = C from eC]; exact gC, ?_⟩
  constructor
  · rw [eC]
    cases e : k.sl with
    | none =>
      rw [e] at sh
      exact ⟨⟨pg, sh.1, po, sa⟩, NoP.at sh.2⟩
    | some ps =>
      rw [e] at sh k3
      simp only [Bool.and_eq_true, decide_eq_true_eq] at k3
      exact ⟨⟨pg, ic, po, sa⟩, k3.1, k3.2, fun j f i => SlotP.at sh j f i⟩
  · exact mem
  · exact k1
  · exact k2
  · rw [eC]; exact MsP.at ms
  · rw [eC]; exact UpP.at X G self up
  · rw [eC]; exact mki
  · rw [eC]; exact kp
  · rw [eC]; exact ic
  · rw [eC]; exact pg
  · rw [eC]; exact cc
  · exact cg
  · exact ct
  · rw [eC]; exact co
  · rw [eC]
    intro t ht
    have := BtP.at bt t ht
    show (if ((Value.ref C : Value) == Value.type t) = true then _ else (if kitMeta t = true then subIn K (.ref C) (.type t) else none)) = _
    rw [if_neg (by intro z; cases (beq_iff_eq.mp z)), if_pos (isi_meta t ht)]
    exact this
  · rw [eC]
    intro t ht
    have := NkP.at nk t ht
    exact ⟨kit_of (.inl fun z => by cases z) ic tC this, this⟩
/-! ### defaults -/
def CstU : PV → Value → Prop
  | .non, .none => True
  | .bl b, .bool b' => b = b'
  | .int i, .int j _ => i = j
  | .str x, .str y _ => x = y
  | _, _ => False
theorem CstU.ok {p : PV} {u : Value} (h : CstU p u) : ∃ v, cstV p = some v ∧ RelV v u := by
  unfold CstU at h
  split at h
  · exact ⟨.non, rfl, rfl⟩
  · subst h; exact ⟨.bl _, rfl, rfl⟩
  · subst h; exact ⟨.int _, rfl, ⟨_, rfl⟩⟩
  · subst h; exact ⟨.str _, rfl, ⟨_, rfl⟩⟩
  · exact h.elim
def DflL : List PV → List Value → Prop
  | [], [] => True
  | p :: ps, u :: us => CstU p u ∧ DflL ps us
  | _, _ => False
theorem DflL.ok : ∀ {ps : List PV} {us : List Value}, DflL ps us → ∃ vs, AllR RelV vs us ∧ AllR (fun p v => cstV p = some v) ps vs
  | [], [], _ => ⟨[], .nil, .nil⟩
  | p :: ps, u :: us, ⟨h1, h2⟩ => by
    obtain ⟨v, e, r⟩ := h1.ok
    obtain ⟨vs, a, b⟩ := DflL.ok h2
    exact ⟨v :: vs, .cons r a, .cons e b⟩
  | [], _ :: _, h => h.elim
  | _ :: _, [], h => h.elim
def KwdL (K : Frag) (D : Addr) : List (Str × PV) → Prop
  | [] => True
  | (n, p) :: r => (∃ u, nsIn K D n = some (some u) ∧ CstU p u) ∧ KwdL K D r
theorem KwdL.ok {K : Frag} {D : Addr} : ∀ {l : List (Str × PV)}, KwdL K D l → ∃ (ku : List (Str × Value)) (kV : List (Str × V)), (∀ n v, ku.lookup n = some v → nsIn K D n = some (some v)) ∧ AllK RelV kV ku ∧ AllK (fun p v => cstV p = some v) l kV
  | [], _ => ⟨[], [], fun n v h => by simp at h, .nil, .nil⟩
  | (n, p) :: r, ⟨⟨u, h1, h2⟩, h3⟩ => by
    obtain ⟨v, e, q⟩ := h2.ok
    obtain ⟨ku, kV, a, b, c⟩ := KwdL.ok h3
    refine ⟨(n, u) :: ku, (n, v) :: kV, fun m w hm => ?_, .cons q b, .cons e c⟩
    rw [List.lookup_cons] at hm
    cases em : m == n with
    | true =>
      rw [em] at hm
      cases hm
      rw [eq_of_beq em]
      exact h1
    | false =>
      rw [em] at hm
      exact a m w hm
section
variable {K : Frag} {x qual : Str} {pa : Arguments} {bo : List Stmt} {sc : Scope} {dV kV dc pm cd ct : Value} {an : Option Addr} {g : Sig} {ps : List PV} {kw : List (Str × PV)}
theorem dfl_00 : DflF K ⟨g, [], []⟩ (fnOf x qual pa bo sc .none kV dc pm an cd ct) := ⟨[], [], [], [], ⟨.inl ⟨rfl, rfl⟩, fun n v h => by simp at h⟩, .nil, .nil, .nil, .nil⟩
theorem dfl_10 {T : Addr} {oc : Value} {od : Option Addr} {its : Array Value} {n : Nat} {osl : Array (Option Value)} (l : K.lookup T = some ⟨oc, od, .seq its n, osl⟩) (h : DflL ps its.toList) : DflF K ⟨g, ps, []⟩ (fnOf x qual pa bo sc (.ref T) kV dc pm an cd ct) := by
  obtain ⟨vs, a, b⟩ := h.ok
  exact ⟨its.toList, [], vs, [], ⟨.inr ⟨T, _, its, n, rfl, l, rfl, rfl⟩, fun n v h => by simp at h⟩, a, .nil, b, .nil⟩
theorem dfl_01 {D : Addr} (hk : KwdL K D kw) : DflF K ⟨g, [], kw⟩ (fnOf x qual pa bo sc .none (.ref D) dc pm an cd ct) := by
  obtain ⟨ku, kv, a, b, c⟩ := hk.ok
  exact ⟨[], ku, [], kv, ⟨.inl ⟨rfl, rfl⟩, fun n v h => ⟨D, rfl, a n v h⟩⟩, .nil, b, .nil, c⟩
theorem dfl_11 {T D : Addr} {oc : Value} {od : Option Addr} {its : Array Value} {n : Nat} {osl : Array (Option Value)} (l : K.lookup T = some ⟨oc, od, .seq its n, osl⟩) (h : DflL ps its.toList) (hk : KwdL K D kw) : DflF K ⟨g, ps, kw⟩ (fnOf x qual pa bo sc (.ref T) (.ref D) dc pm an cd ct) := by
  obtain ⟨vs, a, b⟩ := h.ok
  obtain ⟨ku, kv, a2, b2, c2⟩ := hk.ok
  exact ⟨its.toList, ku, vs, kv, ⟨.inr ⟨T, _, its, n, rfl, l, rfl, rfl⟩, fun n v h => ⟨D, rfl, a2 n v h⟩⟩, a, b2, b, c2⟩
end
/-! ### by pieces, for k_is -/
theorem up_cons {K : Frag} {C D : Addr} {c : Str} {b : Bool} {r : List (Str × Bool)} (h1 : nsIn K mainGlobals c = some (some (.ref D))) (h2 : isClsIn K D = true) (h3 : typeIn K (.ref D) = some (.type "type")) (h4 : subIn K (.ref C) (.ref D) = some b) (h : UpP K C r) : UpP K C ((c, b) :: r) := ⟨⟨D, h1, h2, h3, h4⟩, h⟩
theorem sl_cons {K : Frag} {C p : Addr} {f : Str} {i : Nat} {r : List (Str × Nat)} (h1 : findIn K (.ref C) f = some (some (.ref p))) (h2 : specialIn K (.ref p) "__get__" = some (some (.builtin "member_descriptor.__get__"))) (h3 : takesIn K (.ref p) = some true) (h4 : typeIn K (.ref p) = some (.type "member_descriptor")) (h5 : slotIn K p C = some i) (h6 : i < 1000) (h : SlotP K C r) : SlotP K C ((f, i) :: r) := ⟨⟨p, h1, h2, h3, h4, h5, h6⟩, h⟩
theorem kwd_cons {K : Frag} {D : Addr} {n : Str} {p : PV} {u : Value} {r : List (Str × PV)} (h1 : nsIn K D n = some (some u)) (h2 : CstU p u) (h : KwdL K D r) : KwdL K D ((n, p) :: r) := ⟨⟨u, h1, h2⟩, h⟩
theorem msf_df {K : Frag} {C f : Addr} {m k : Str} (h1 : findIn K (.ref C) m = some (some (.ref f))) (h2 : isFn K (.ref f) = true) (h3 : keepIn K (.ref f) = true) (h4 : fnIn K f = true) : MsF K C m f (.df k) := ⟨⟨h1, h2, h3⟩, h4⟩
theorem msf_cs {K : Frag} {C f : Addr} {m s : Str} {t : Nat} (h1 : findIn K (.ref C) m = some (some (.str s t))) (h2 : specialIn K (.str s t) "__get__" = some none) (h3 : readsIn K C (.type "type") = true) (h4 : specialIn K (.ref C) "__getattribute__" = some (some (.builtin "type.__getattribute__"))) (h5 : findCls K (.ref C) (.type "type") m = some (.val (.str s t))) (h6 : copiedNames.contains m = false) : MsF K C m f (.cs s) :=
  ⟨⟨_, h1, ⟨t, rfl⟩, h2, h6⟩, .type "type", _, ⟨h3, h4⟩, h5, ⟨t, rfl⟩⟩
theorem msf_cm {K : Frag} {C f p : Addr} {m k : Str} {rest : List Value} (h1 : findCls K (.ref C) (.type "type") m = some (.get (.builtin "classmethod.__get__") (.ref p) .none (.ref C))) (h2 : recIn K p "classmethod" = some (.ref f :: rest)) (h3 : readsIn K C (.type "type") = true) (h4 : specialIn K (.ref C) "__getattribute__" = some (some (.builtin "type.__getattribute__"))) (h5 : fnIn K f = true) : MsF K C m f (.cm k) :=
  ⟨.type "type", p, ⟨h3, h4⟩, h1, ⟨rest, h2⟩, h5⟩
theorem msf_sm {K : Frag} {C f p : Addr} {m k : Str} {rest : List Value} (h1 : findCls K (.ref C) (.type "type") m = some (.get (.builtin "staticmethod.__get__") (.ref p) .none (.ref C))) (h2 : recIn K p "staticmethod" = some (.ref f :: rest)) (h3 : readsIn K C (.type "type") = true) (h4 : specialIn K (.ref C) "__getattribute__" = some (some (.builtin "type.__getattribute__"))) (h5 : keepIn K (.ref f) = true) : MsF K C m f (.sm k) :=
  ⟨.type "type", p, rest, ⟨h3, h4⟩, h1, h2, h5⟩
theorem msf_pr {K : Frag} {C f p : Addr} {m k : Str} {rest : List Value} (h1 : findIn K (.ref C) m = some (some (.ref p))) (h2 : specialIn K (.ref p) "__get__" = some (some (.builtin "property.__get__"))) (h3 : takesIn K (.ref p) = some true) (h4 : recIn K p "property" = some (.ref f :: rest)) : MsF K C m f (.pr k) := ⟨p, h1, h2, h3, rest, h4⟩
end Y
end
section
set_option Elab.async false
set_option linter.all false
set_option maxRecDepth 100000
set_option maxHeartbeats 2000000
set_option autoImplicit false
/-! Z1: rules for what the evaluator gives: apply them from the left. -/
namespace Y
open PySem
def Res.sat {α : Type} (r : Res α) (Q : α → Fr → Prop) (E : PX → Fr → Prop) : Prop := match r with
  | .ok a ρ => Q a ρ
  | .ex x ρ => E x ρ
  | .bad => False
def CR.sat (r : CR) (Q : PV → Fr → Prop) (E : PX → Fr → Prop) : Prop := match r with
  | .ok a ρ => Q a ρ
  | .ex x ρ => E x ρ
  | .bad => False
section
variable {α β : Type} {Q : α → Fr → Prop} {E : PX → Fr → Prop} {c : Cf} {ρ : Fr}
theorem sat_bind {r : Res β} {f : β → Fr → Res α} : (r.bind f).sat Q E ↔ r.sat (fun a ρ => (f a ρ).sat Q E) E := by
  cases r <;> rfl
theorem Res.sat.mono {r : Res α} {Q' : α → Fr → Prop} (h : r.sat Q' E) (k : ∀ a ρ, Q' a ρ → Q a ρ) : r.sat Q E := by
  cases r with
  | ok a ρ => exact k _ _ h
  | ex x ρ => exact h
  | bad => exact h
theorem CR.sat.mono {r : CR} {Q Q' : PV → Fr → Prop} (h : r.sat Q' E) (k : ∀ a ρ, Q' a ρ → Q a ρ) : r.sat Q E := by
  cases r with
  | ok a ρ => exact k _ _ h
  | ex x ρ => exact h
  | bad => exact h
end
section
variable {Q : PV → Fr → Prop} {E : PX → Fr → Prop} {c : Cf} {ρ : Fr}
theorem s_cst {p : PV} (h : Q p ρ) : (evE c (.cst p) ρ).sat Q E := by simp only [evE]; exact h
theorem s_loc {i : Nat} {p p' : PV} (e : ρ.at i = some p) (f : p.frz = p') (h : Q p' (ρ.set i (some p'))) : (evE c (.loc i) ρ).sat Q E := by subst f; simp only [evE, e]; exact h
theorem s_mov {i : Nat} {p : PV} (e : ρ.at i = some p) (h : Q p (ρ.set i none)) : (evE c (.mov i) ρ).sat Q E := by simp only [evE, e]; exact h
theorem s_op {f : Op} {es : List IE} (h : (evO c es ρ).sat (fun os ρ1 => ∃ ps r, rsvL ρ1 os = some ps ∧ opN f ps = some r ∧ Q r ρ1) E) : (evE c (.op f es) ρ).sat Q E := by
  simp only [evE]
  refine sat_bind.mpr (h.mono fun os ρ1 ⟨ps, r, e1, e2, q⟩ => ?_)
  rw [e1]
  dsimp only
  rw [e2]
  exact q
theorem s_and {a b : IE} (h : (evE c a ρ).sat (fun p ρ1 => ∃ k, p = .bl k ∧ (k = true → (evE c b ρ1).sat Q E) ∧ (k = false → Q (.bl false) ρ1)) E) : (evE c (.and a b) ρ).sat Q E := by
  simp only [evE, asB]
  refine sat_bind.mpr (sat_bind.mpr (h.mono fun p ρ1 ⟨k, e, q1, q2⟩ => ?_))
  subst e
  cases k with
  | true => exact q1 rfl
  | false => exact q2 rfl
theorem s_or {a b : IE} (h : (evE c a ρ).sat (fun p ρ1 => ∃ k, p = .bl k ∧ (k = true → Q (.bl true) ρ1) ∧ (k = false → (evE c b ρ1).sat Q E)) E) : (evE c (.or a b) ρ).sat Q E := by
  simp only [evE, asB]
  refine sat_bind.mpr (sat_bind.mpr (h.mono fun p ρ1 ⟨k, e, q1, q2⟩ => ?_))
  subst e
  cases k with
  | true => exact q1 rfl
  | false => exact q2 rfl
theorem s_ite {t a b : IE} (h : (evT c t (evE c t) ρ).sat (fun k ρ1 => (k = true → (evE c a ρ1).sat Q E) ∧ (k = false → (evE c b ρ1).sat Q E)) E) : (evE c (.ite t a b) ρ).sat Q E := by
  simp only [evE]
  refine sat_bind.mpr (h.mono fun k ρ1 ⟨q1, q2⟩ => ?_)
  cases k with
  | true => exact q1 rfl
  | false => exact q2 rfl
theorem s_lst {es : List IE} (h : (evL c es ρ).sat (fun ps ρ1 => ∃ qs, PV.frzL ps = qs ∧ okS ps.length = true ∧ Q (.lst true qs) ρ1) E) : (evE c (.lst es) ρ).sat Q E := by
  simp only [evE]
  refine sat_bind.mpr (h.mono fun ps ρ1 ⟨qs, f, e, q⟩ => ?_)
  subst f
  rw [if_pos e]
  exact q
theorem s_tup {es : List IE} (h : (evL c es ρ).sat (fun ps ρ1 => ∃ qs, PV.frzL ps = qs ∧ okS ps.length = true ∧ Q (.tup qs) ρ1) E) : (evE c (.tup es) ρ).sat Q E := by
  simp only [evE]
  refine sat_bind.mpr (h.mono fun ps ρ1 ⟨qs, f, e, q⟩ => ?_)
  subst f
  rw [if_pos e]
  exact q
theorem s_call {k : Str} {ls : List Bool} {es : List IE} (h : (evA c ls es ρ).sat (fun os ρ0 => ∃ as ρ1, takeA os ρ0 = some (as, ρ1) ∧ (c.call k (as.map (·.1))).sat (fun r as' => Q r (give (as.map (·.2)) as' ρ1)) fun x as' => E x (give (as.map (·.2)) as' ρ1)) E) : (evE c (.call k ls es) ρ).sat Q E := by
  simp only [evE]
  refine sat_bind.mpr (h.mono fun os ρ0 ⟨as, ρ1, et, q⟩ => ?_)
  rw [et]
  show (callR c k as ρ1).sat Q E
  unfold callR
  cases e : c.call k (as.map (·.1)) with
  | ok r as' => rw [e] at q; exact q
  | ex x as' => rw [e] at q; exact q
  | bad => rw [e] at q; exact q
theorem s_slc {x a b : IE} (h : (opnd x (evE c x) ρ).sat (fun o ρ1 => (opnd a (evE c a) ρ1).sat (fun y ρ2 => ∃ i, rsv ρ2 y = some (.int i) ∧ (opnd b (evE c b) ρ2).sat (fun z ρ3 => ∃ p j r, rsv ρ3 o = some p ∧ rsv ρ3 z = some (.int j) ∧ sliceN p (some i) (some j) = some r ∧ Q r ρ3) E) E) E) : (evE c (.slc x a b) ρ).sat Q E := by
  simp only [evE]
  refine sat_bind.mpr (h.mono fun o ρ1 q => sat_bind.mpr (q.mono fun y ρ2 ⟨i, e1, q⟩ => ?_))
  rw [e1]
  refine sat_bind.mpr (q.mono fun z ρ3 ⟨p, j, r, e2, e3, e4, q⟩ => ?_)
  rw [e2, e3]
  dsimp only [Option.bind, partN]
  rw [e4]
  exact q
end
section
variable {Q : OV → Fr → Prop} {E : PX → Fr → Prop} {c : Cf} {ρ : Fr}
theorem o_loc {i : Nat} {run : Fr → Res PV} {p : PV} (e : ρ.at i = some p) (h : Q (.vw i) ρ) : (opnd (.loc i) run ρ).sat Q E := by simp only [opnd, e]; exact h
def isL0 : IE → Bool
  | .loc _ => true
  | .it _ _ => true
  | _ => false
theorem o_it {i k : Nat} {run : Fr → Res PV} {xs : List PV} (e : ρ.at i = some (.tup xs)) (hk : k < xs.length) (h : Q (.vi i k) ρ) : (opnd (.it i k) run ρ).sat Q E := by simp only [opnd, e, hk, if_true]; exact h
theorem o_val {ie : IE} {run : Fr → Res PV} (e : isL0 ie = false) (h : (run ρ).sat (fun p ρ1 => ∃ p', p.frz = p' ∧ Q (.vl p') ρ1) E) : (opnd ie run ρ).sat Q E := by
  have : opnd ie run ρ = (run ρ).bind fun p ρ' => .ok (.vl p.frz) ρ' := by
    cases ie <;> first
      | rfl
      | cases e
  rw [this]
  exact sat_bind.mpr (h.mono fun p ρ1 ⟨p', f, q⟩ => by subst f; exact q)
end
section
variable {E : PX → Fr → Prop} {c : Cf} {ρ : Fr}
theorem os_nil {Q : List OV → Fr → Prop} (h : Q [] ρ) : (evO c [] ρ).sat Q E := by simp only [evO]; exact h
theorem os_cons {Q : List OV → Fr → Prop} {e : IE} {es : List IE} (h : (opnd e (evE c e) ρ).sat (fun o ρ1 => (evO c es ρ1).sat (fun os ρ2 => Q (o :: os) ρ2) E) E) : (evO c (e :: es) ρ).sat Q E := by
  simp only [evO]
  exact sat_bind.mpr (h.mono fun o ρ1 q => sat_bind.mpr (q.mono fun _ _ z => z))
theorem l_nil {Q : List PV → Fr → Prop} (h : Q [] ρ) : (evL c [] ρ).sat Q E := by simp only [evL]; exact h
theorem l_cons {Q : List PV → Fr → Prop} {e : IE} {es : List IE} (h : (evE c e ρ).sat (fun o ρ1 => (evL c es ρ1).sat (fun os ρ2 => Q (o :: os) ρ2) E) E) : (evL c (e :: es) ρ).sat Q E := by
  simp only [evL]
  exact sat_bind.mpr (h.mono fun o ρ1 q => sat_bind.mpr (q.mono fun _ _ z => z))
theorem a_nil {ls : List Bool} {Q : List OV → Fr → Prop} (h : Q [] ρ) : (evA c ls [] ρ).sat Q E := by simp only [evA]; exact h
theorem a_cons {ls : List Bool} {Q : List OV → Fr → Prop} {e : IE} {es : List IE} (h : (opA (ls.headD false) e (evE c e) ρ).sat (fun o ρ1 => (evA c ls.tail es ρ1).sat (fun os ρ2 => Q (o :: os) ρ2) E) E) : (evA c ls (e :: es) ρ).sat Q E := by
  simp only [evA]
  exact sat_bind.mpr (h.mono fun o ρ1 q => sat_bind.mpr (q.mono fun _ _ z => z))
/-- a name that is handed over: as it is where nothing in it is held alone, else lent -/
theorem g_see {b : Bool} {i : Nat} {run : Fr → Res PV} {Q : PV × Option Nat → Fr → Prop} {p : PV} (hb : b = true) (e : ρ.at i = some p) (f : p.fz = true) (h : Q (p, none) ρ) : (argd b (.loc i) run ρ).sat Q E := by
  subst hb
  simp only [argd, e, f, if_true]
  exact h
theorem g_lend {b : Bool} {i : Nat} {run : Fr → Res PV} {Q : PV × Option Nat → Fr → Prop} {p : PV} (hb : b = true) (e : ρ.at i = some p) (f : p.fz = false) (h : Q (p, some i) (ρ.set i none)) : (argd b (.loc i) run ρ).sat Q E := by
  subst hb
  simp only [argd, e, f, Bool.false_eq_true, if_false]
  exact h
theorem g_val {b : Bool} {ie : IE} {run : Fr → Res PV} {Q : PV × Option Nat → Fr → Prop} (e : (b && isL0 ie) = false) (h : (run ρ).sat (fun p ρ1 => ∃ p', p.frz = p' ∧ Q (p', none) ρ1) E) : (argd b ie run ρ).sat Q E := by
  have : argd b ie run ρ = (run ρ).bind fun p ρ' => .ok (p.frz, none) ρ' := by
    cases b with
    | false => cases ie <;> rfl
    | true =>
      cases ie <;> first
        | rfl
        | cases e
  rw [this]
  exact sat_bind.mpr (h.mono fun p ρ1 ⟨p', f, q⟩ => by subst f; exact q)
end
/-! tests -/
section
variable {Q : Bool → Fr → Prop} {E : PX → Fr → Prop} {c : Cf} {ρ : Fr} {run : Fr → Res PV}
theorem t_and {a b : IE} (h : (evT c a (evE c a) ρ).sat (fun k ρ1 => (k = true → (evT c b (evE c b) ρ1).sat Q E) ∧ (k = false → Q false ρ1)) E) : (evT c (.and a b) run ρ).sat Q E := by
  simp only [evT]
  refine sat_bind.mpr (h.mono fun k ρ1 ⟨q1, q2⟩ => ?_)
  cases k with
  | true => exact q1 rfl
  | false => exact q2 rfl
theorem t_or {a b : IE} (h : (evT c a (evE c a) ρ).sat (fun k ρ1 => (k = true → Q true ρ1) ∧ (k = false → (evT c b (evE c b) ρ1).sat Q E)) E) : (evT c (.or a b) run ρ).sat Q E := by
  simp only [evT]
  refine sat_bind.mpr (h.mono fun k ρ1 ⟨q1, q2⟩ => ?_)
  cases k with
  | true => exact q1 rfl
  | false => exact q2 rfl
theorem t_not {a : IE} (h : (evT c a (evE c a) ρ).sat (fun k ρ1 => Q (!k) ρ1) E) : (evT c (.op .not [a]) run ρ).sat Q E := by
  simp only [evT]
  exact sat_bind.mpr h
def nNot : Op → Bool
  | .not => false
  | _ => true
theorem t_op {f : Op} {es : List IE} (hf : nNot f = true) (h : (run ρ).sat (fun p ρ1 => ∃ k, p = .bl k ∧ Q k ρ1) E) : (evT c (.op f es) run ρ).sat Q E := by
  have : evT c (.op f es) run ρ = asB (run ρ) := by
    cases f <;> first
      | simp only [evT]
      | cases hf
  rw [this]
  refine sat_bind.mpr (h.mono fun p ρ1 ⟨k, e, q⟩ => ?_)
  subst e
  exact q
theorem t_dcmp {f : CmpOp} {t u : Option Bool} {es ds : List IE} (h : (run ρ).sat (fun p ρ1 => ∃ k, p = .bl k ∧ Q k ρ1) E) : (evT c (.dcmp f t es u ds) run ρ).sat Q E := by
  simp only [evT]
  refine sat_bind.mpr (h.mono fun p ρ1 ⟨k, e, q⟩ => ?_)
  subst e
  exact q
theorem t_chain {f g : CmpOp} {x y z : IE} (h : (run ρ).sat (fun p ρ1 => ∃ k, p = .bl k ∧ Q k ρ1) E) : (evT c (.chain f g x y z) run ρ).sat Q E := by
  simp only [evT]
  refine sat_bind.mpr (h.mono fun p ρ1 ⟨k, e, q⟩ => ?_)
  subst e
  exact q
def isV0 : IE → Bool
  | .op _ _ => false
  | .chain _ _ _ _ _ => false
  | .dcmp _ _ _ _ _ => false
  | .oeq _ _ _ => false
  | .has _ _ => false
  | .and _ _ => false
  | .or _ _ => false
  | _ => true
theorem t_oeq {ng : Bool} {a b : IE} (h : (run ρ).sat (fun p ρ1 => ∃ k, p = .bl k ∧ Q k ρ1) E) : (evT c (.oeq ng a b) run ρ).sat Q E := by
  simp only [evT]
  refine sat_bind.mpr (h.mono fun p ρ1 ⟨k, e, q⟩ => ?_)
  subst e
  exact q
theorem t_has {a b : IE} (h : (run ρ).sat (fun p ρ1 => ∃ k, p = .bl k ∧ Q k ρ1) E) : (evT c (.has a b) run ρ).sat Q E := by
  simp only [evT]
  refine sat_bind.mpr (h.mono fun p ρ1 ⟨k, e, q⟩ => ?_)
  subst e
  exact q
theorem t_val {ie : IE} (hv : isV0 ie = true) (h : (opnd ie run ρ).sat (fun o ρ1 => ∃ p k, rsv ρ1 o = some p ∧ truth p = some k ∧ Q k ρ1) E) : (evT c ie run ρ).sat Q E := by
  have : evT c ie run ρ = (opnd ie run ρ).bind fun o ρ1 => match rsv ρ1 o with
    | some p => (match truth p with
      | some k => .ok k ρ1
      | none => .bad)
    | none => .bad := by
    cases ie <;> first
      | first | (simp only [evT]; done) | (simp only [evT]; rfl)
      | cases hv
  rw [this]
  refine sat_bind.mpr (h.mono fun o ρ1 ⟨p, k, e1, e2, q⟩ => ?_)
  rw [e1]
  dsimp only
  rw [e2]
  exact q
theorem i_nil (h : Q true ρ) : (evIfs c [] ρ).sat Q E := by simp only [evIfs]; exact h
theorem i_one {e : IE} (h : (evT c e (evE c e) ρ).sat Q E) : (evIfs c [e] ρ).sat Q E := by simp only [evIfs]; exact h
end
/-! chains -/
theorem s_chain {Q : PV → Fr → Prop} {E : PX → Fr → Prop} {c : Cf} {ρ : Fr} {f g : CmpOp} {x y z : IE} (h : (opnd x (evE c x) ρ).sat (fun o1 ρ1 => (opnd y (evE c y) ρ1).sat (fun o2 ρ2 => ∃ p q k, rsv ρ2 o1 = some p ∧ rsv ρ2 o2 = some q ∧ cmpN f p q = some k ∧
    (k = false → Q (.bl false) ρ2) ∧ (k = true → (opnd z (evE c z) ρ2).sat (fun o3 ρ3 => ∃ q' r k', rsv ρ3 o2 = some q' ∧ rsv ρ3 o3 = some r ∧ cmpN g q' r = some k' ∧ Q (.bl k') ρ3) E)) E) E) : (evE c (.chain f g x y z) ρ).sat Q E := by
  simp only [evE]
  refine sat_bind.mpr (h.mono fun o1 ρ1 h => sat_bind.mpr (h.mono fun o2 ρ2 ⟨p, q, k, e1, e2, e3, q1, q2⟩ => ?_))
  rw [e1, e2]
  dsimp only
  rw [e3]
  cases k with
  | false => exact q1 rfl
  | true =>
    refine sat_bind.mpr ((q2 rfl).mono fun o3 ρ3 ⟨q', r, k', f1, f2, f3, q⟩ => ?_)
    rw [f1, f2]
    dsimp only
    rw [f3]
    exact q
theorem s_dcmp {Q : PV → Fr → Prop} {E : PX → Fr → Prop} {c : Cf} {ρ : Fr} {f : CmpOp} {t u : Option Bool} {es ds : List IE} (h : (evO c es ρ).sat (fun x ρ1 => okS x.length = true ∧ (evO c ds ρ1).sat (fun y ρ2 => okS y.length = true ∧ ∃ p q k, (rsvL ρ2 x).bind (dspP t) = some p ∧ (rsvL ρ2 y).bind (dspP u) = some q ∧ cmpN f p q = some k ∧ Q (.bl k) ρ2) E) E) : (evE c (.dcmp f t es u ds) ρ).sat Q E := by
  simp only [evE]
  refine sat_bind.mpr (sat_bind.mpr (h.mono fun x ρ1 ⟨o1, h⟩ => ?_))
  unfold fitO
  rw [if_pos o1]
  refine sat_bind.mpr (sat_bind.mpr (h.mono fun y ρ2 ⟨o2, p, q, k, e1, e2, e3, h⟩ => ?_))
  rw [if_pos o2]
  show Res.sat (match (rsvL ρ2 x).bind (dspP t), (rsvL ρ2 y).bind (dspP u) with
      | some p, some q => (match cmpN f p q with
        | some k => .ok (.bl k) ρ2
        | none => .bad)
      | _, _ => .bad) Q E
  rw [e1, e2]
  dsimp only
  rw [e3]
  exact h
/-! what is walked -/
section
variable {Q : List PV → Fr → Prop} {E : PX → Fr → Prop} {c : Cf} {ρ : Fr}
theorem w_it {e : IE} (h : (evE c e ρ).sat (fun p ρ1 => ∃ p' xs, p.frz = p' ∧ srcOf p' = some xs ∧ Q xs ρ1) E) : (evSrc c (.it e) ρ).sat Q E := by
  simp only [evSrc]
  refine sat_bind.mpr (h.mono fun p ρ1 ⟨p', xs, f, e, q⟩ => ?_)
  subst f
  rw [e]
  exact q
theorem w_rng {es : List IE} (h : (evO c es ρ).sat (fun os ρ1 => ∃ ps xs, rsvL ρ1 os = some ps ∧ rngN ps = some xs ∧ Q xs ρ1) E) : (evSrc c (.rng es) ρ).sat Q E := by
  simp only [evSrc]
  refine sat_bind.mpr (h.mono fun os ρ1 ⟨ps, xs, e1, e2, q⟩ => ?_)
  rw [e1]
  dsimp only [Option.bind]
  rw [e2]
  exact q
theorem w_enm {e : IE} (h : (evE c e ρ).sat (fun p ρ1 => ∃ p' xs, p.frz = p' ∧ enmP [p'] = some xs ∧ Q xs ρ1) E) : (evSrc c (.enm e) ρ).sat Q E := by
  simp only [evSrc]
  refine sat_bind.mpr (g_val (b := false) rfl (h.mono fun p ρ1 ⟨p', xs, f, e, q⟩ => ⟨p', f, ?_⟩))
  rw [e]
  exact q
/-- a comprehension's loop, by an invariant of what is left, what is made, the slots -/
theorem comp_loop {turn : PV → Fr → Res (Option PV)} {own : List Nat} (I : List PV → List PV → Fr → Prop) (step : ∀ x r acc ρ, I (x :: r) acc ρ → (turn x ρ).sat (fun y ρ1 => match y with
    | some y => ∃ y', y.frz = y' ∧ acc.length < sizeLine ∧ I r (acc ++ [y']) (wipeF ρ1 own)
    | none => I r acc (wipeF ρ1 own)) fun _ _ => False) : ∀ (xs acc : List PV) (ρ : Fr), I xs acc ρ → (compL turn own xs ρ acc).sat (fun ys ρ => I [] ys ρ) fun _ _ => False
  | [], acc, ρ, h => h
  | x :: r, acc, ρ, h => by
    have s := step x r acc ρ h
    unfold compL
    cases e : turn x ρ with
    | bad => rw [e] at s; exact s
    | ex x ρ1 => rw [e] at s; exact s.elim
    | ok y ρ1 =>
      rw [e] at s
      cases y with
      | none => exact comp_loop I step r acc _ s
      | some y =>
        obtain ⟨y', f, h1, h2⟩ := s
        subst f
        dsimp only
        rw [if_pos h1]
        exact comp_loop I step r _ _ h2
end
/-- the comprehension's own names are as they were -/
def putB (ρ0 ρ : Fr) : List Nat → Fr
  | [] => ρ
  | i :: r => (putB ρ0 ρ r).set i (ρ0.at i)
def backB (ρ0 ρ : Fr) (own : List Nat) : Fr := putB ρ0 (wipeF ρ own) own
theorem fr_at_set (ρ : Fr) (i j : Nat) (x : Option PV) : Fr.at (ρ.set i x) j = if i = j ∧ i < ρ.length then x else Fr.at ρ j := by
  unfold Fr.at
  rw [List.getD_eq_getElem?_getD, List.getD_eq_getElem?_getD, List.getElem?_set]
  by_cases h : i = j
  · subst h
    by_cases h2 : i < ρ.length
    · simp [h2]
    · simp [h2]
  · simp [h]
theorem fr_set_none {ρ : Fr} {i : Nat} (h : Fr.at ρ i = none) : ρ.set i none = ρ := by
  apply List.ext_getElem?
  intro j
  rw [List.getElem?_set]
  by_cases e : i = j
  · subst e
    rw [if_pos rfl]
    unfold Fr.at at h
    rw [List.getD_eq_getElem?_getD] at h
    by_cases h2 : i < ρ.length
    · rw [if_pos h2]
      rw [List.getElem?_eq_getElem h2] at h ⊢
      exact congrArg some h.symm
    · rw [if_neg h2, List.getElem?_eq_none (by omega)]
  · rw [if_neg e]
theorem wipe_at (ρ : Fr) : ∀ (own : List Nat) (i : Nat), i ∈ own → Fr.at (wipeF ρ own) i = none
  | [], i, h => by cases h
  | k :: r, i, h => by
    unfold wipeF
    rw [fr_at_set]
    split
    · rfl
    · rename_i hn
      rcases List.mem_cons.mp h with z | z
      · subst z
        have hl : ¬ i < (wipeF ρ r).length := fun q => hn ⟨rfl, q⟩
        unfold Fr.at
        rw [List.getD_eq_getElem?_getD, List.getElem?_eq_none (by omega)]
        rfl
      · exact wipe_at ρ r i z
theorem putB_at {ρ0 ρ : Fr} {i : Nat} (h0 : Fr.at ρ0 i = none) (h : Fr.at ρ i = none) : ∀ l : List Nat, Fr.at (putB ρ0 ρ l) i = none
  | [] => h
  | k :: r => by
    unfold putB
    rw [fr_at_set]
    split
    · rename_i e
      rw [e.1]
      exact h0
    · exact putB_at h0 h r
theorem putB_eq {ρ0 ρ : Fr} : ∀ {l : List Nat}, (∀ i ∈ l, Fr.at ρ i = none) → putAt ρ0 ρ l = putB ρ0 ρ l
  | [], _ => rfl
  | i :: r, h => by
    have ih := putB_eq (ρ0 := ρ0) fun j hj => h j (List.mem_cons_of_mem _ hj)
    unfold putAt putB
    cases e : Fr.at ρ0 i with
    | some p => rw [ih]
    | none =>
      rw [ih]
      exact (fr_set_none (putB_at e (h i List.mem_cons_self) r)).symm
theorem back_eq (ρ0 ρ : Fr) (own : List Nat) : backAt ρ0 ρ own = backB ρ0 ρ own := putB_eq (wipe_at ρ own)
theorem s_comp {Q : PV → Fr → Prop} {E : PX → Fr → Prop} {c : Cf} {ρ : Fr} {elt : IE} {tg : IT} {src : ISrc} {ifs : List IE} {own : List Nat} (I : List PV → List PV → Fr → Prop) (h : (evSrc c src ρ).sat (fun xs ρ1 => I xs [] (wipeF (frzAt ρ1 own) own) ∧ ∀ ys ρ2, I [] ys ρ2 → Q (.lst true ys) (backB (frzAt ρ1 own) ρ2 own)) E)
    (step : ∀ x r acc ρ, I (x :: r) acc ρ → ∃ ρ2, asg tg x ρ = some ρ2 ∧ (evIfs c ifs ρ2).sat (fun k ρ3 => (k = true → (evE c elt ρ3).sat (fun y ρ4 => ∃ y', y.frz = y' ∧ acc.length < sizeLine ∧ I r (acc ++ [y']) (wipeF ρ4 own)) fun _ _ => False) ∧ (k = false → I r acc (wipeF ρ3 own))) fun _ _ => False) :
    (evE c (.comp elt tg src ifs own) ρ).sat Q E := by
  simp only [evE]
  refine sat_bind.mpr (h.mono fun xs ρ1 ⟨h0, hk⟩ => ?_)
  have L := comp_loop (own := own) (turn := fun x ρ => match asg tg x ρ with
        | some ρ2 => (evIfs c ifs ρ2).bind fun k ρ3 => if k then (evE c elt ρ3).bind fun y ρ4 => .ok (some y) ρ4 else .ok none ρ3
        | none => .bad) I (fun x r acc ρ hI => by
      obtain ⟨ρ2, e, q⟩ := step x r acc ρ hI
      rw [e]
      refine sat_bind.mpr (q.mono fun k ρ3 ⟨q1, q2⟩ => ?_)
      cases k with
      | true =>
        rw [if_pos rfl]
        exact sat_bind.mpr (q1 rfl)
      | false =>
        rw [if_neg Bool.false_ne_true]
        exact q2 rfl) xs [] _ h0
  generalize compL _ own xs _ [] = r at L
  cases r with
  | ok ys ρ2 =>
    show Q _ (backAt _ _ _)
    rw [back_eq]
    exact hk ys ρ2 L
  | ex x ρ2 => exact L.elim
  | bad => exact L.elim
/-! statements -/
section
variable {Q : Fl → Fr → Prop} {E : PX → Fr → Prop} {c : Cf} {ρ : Fr}
theorem b_nil (h : Q .nx ρ) : (evB c [] ρ).sat Q E := by simp only [evB]; exact h
theorem b_cons {s : IS} {r : List IS} (h : (evS c s ρ).sat (fun f ρ1 => match f with
    | .nx => (evB c r ρ1).sat Q E
    | z => Q z ρ1) E) : (evB c (s :: r) ρ).sat Q E := by
  simp only [evB]
  cases e : evS c s ρ with
  | bad => rw [e] at h; exact h
  | ex x ρ1 => rw [e] at h; exact h
  | ok f ρ1 =>
    rw [e] at h
    cases f <;> exact h
theorem k_set {i : Nat} {e : IE} (h : (evE c e ρ).sat (fun p ρ1 => i < ρ1.length ∧ Q .nx (ρ1.set i (some p))) E) : (evS c (.set i e) ρ).sat Q E := by
  simp only [evS]
  refine sat_bind.mpr (h.mono fun p ρ1 ⟨e, q⟩ => ?_)
  rw [if_pos e]
  exact q
theorem k_asg {tg : IT} {e : IE} (h : (evE c e ρ).sat (fun p ρ1 => ∃ p' ρ2, p.frz = p' ∧ asg tg p' ρ1 = some ρ2 ∧ Q .nx ρ2) E) : (evS c (.asg tg e) ρ).sat Q E := by
  simp only [evS]
  refine sat_bind.mpr (h.mono fun p ρ1 ⟨p', ρ2, f, e, q⟩ => ?_)
  subst f
  rw [e]
  exact q
theorem k_add {i : Nat} {e : IE} {a : Int} (e0 : ρ.at i = some (.int a)) (h : (evE c e ρ).sat (fun p ρ1 => ∃ b, p = .int b ∧ Q .nx (ρ1.set i (some (.int (a + b))))) E) : (evS c (.aug i .Add e) ρ).sat Q E := by
  simp only [evS, e0]
  refine sat_bind.mpr (h.mono fun p ρ1 ⟨b, e, q⟩ => ?_)
  subst e
  exact q
theorem k_dec {i : Nat} {e : IE} {a : Int} (e0 : ρ.at i = some (.int a)) (h : (evE c e ρ).sat (fun p ρ1 => ∃ b, p = .int b ∧ Q .nx (ρ1.set i (some (.int (a - b))))) E) : (evS c (.aug i .Sub e) ρ).sat Q E := by
  simp only [evS, e0]
  refine sat_bind.mpr (h.mono fun p ρ1 ⟨b, e, q⟩ => ?_)
  subst e
  exact q
theorem k_sub {i : Nat} {ix e : IE} (h : (evE c e ρ).sat (fun p ρ1 => ∃ p', p.frz = p' ∧ isLst (ρ1.at i) = true ∧ (opnd ix (evE c ix) ρ1).sat (fun o ρ2 => ∃ xs k j, ρ2.at i = some (.lst true xs) ∧ rsv ρ2 o = some (.int k) ∧ L2.ixN xs.length k = some j ∧ Q .nx (ρ2.set i (some (.lst true (xs.set j p'))))) E) E) : (evS c (.sub i ix e) ρ).sat Q E := by
  simp only [evS]
  refine sat_bind.mpr (h.mono fun p ρ1 ⟨p', f, e, q⟩ => ?_)
  subst f
  rw [if_pos e]
  refine sat_bind.mpr (q.mono fun o ρ2 ⟨xs, k, j, e1, e2, e3, q⟩ => ?_)
  rw [e1, e2]
  dsimp only
  rw [e3]
  exact q
theorem k_app {i : Nat} {e : IE} (e0 : isLst (ρ.at i) = true) (h : (evE c e ρ).sat (fun p ρ1 => ∃ p' xs, p.frz = p' ∧ ρ1.at i = some (.lst true xs) ∧ xs.length < sizeLine ∧ Q .nx (ρ1.set i (some (.lst true (xs ++ [p']))))) E) : (evS c (.app i e) ρ).sat Q E := by
  simp only [evS, e0, if_true]
  refine sat_bind.mpr (h.mono fun p ρ1 ⟨p', xs, f, e1, e2, q⟩ => ?_)
  subst f
  rw [e1]
  dsimp only
  rw [if_pos e2]
  exact q
theorem k_ext {i : Nat} {e : IE} (e0 : isLst (ρ.at i) = true) (h : (evE c e ρ).sat (fun p ρ1 => ∃ xs o ys, ρ1.at i = some (.lst true xs) ∧ p.frz = .lst o ys ∧ xs.length + ys.length ≤ sizeLine ∧ Q .nx (ρ1.set i (some (.lst true (xs ++ ys))))) E) : (evS c (.ext i e) ρ).sat Q E := by
  simp only [evS, e0, if_true]
  refine sat_bind.mpr (h.mono fun p ρ1 ⟨xs, o, ys, e1, e2, e3, q⟩ => ?_)
  rw [e1, e2]
  dsimp only
  rw [if_pos e3]
  exact q
theorem k_exp {e : IE} (h : (evE c e ρ).sat (fun _ ρ1 => Q .nx ρ1) E) : (evS c (.exp e) ρ).sat Q E := by
  simp only [evS]
  exact sat_bind.mpr h
theorem k_ret {e : IE} (h : (evE c e ρ).sat (fun p ρ1 => Q (.rt p) ρ1) E) : (evS c (.ret e) ρ).sat Q E := by
  simp only [evS]
  exact sat_bind.mpr h
theorem k_retN (h : Q (.rt .non) ρ) : (evS c .retN ρ).sat Q E := by simp only [evS]; exact h
theorem k_brk (h : Q .bk ρ) : (evS c .brk ρ).sat Q E := by simp only [evS]; exact h
theorem k_cnt (h : Q .ct ρ) : (evS c .cnt ρ).sat Q E := by simp only [evS]; exact h
theorem k_pas (h : Q .nx ρ) : (evS c .pas ρ).sat Q E := by simp only [evS]; exact h
theorem k_ife {t : IE} {a b : List IS} (h : (evT c t (evE c t) ρ).sat (fun k ρ1 => (k = true → (evB c a ρ1).sat Q E) ∧ (k = false → (evB c b ρ1).sat Q E)) E) : (evS c (.ife t a b) ρ).sat Q E := by
  simp only [evS]
  refine sat_bind.mpr (h.mono fun k ρ1 ⟨q1, q2⟩ => ?_)
  cases k with
  | true => exact q1 rfl
  | false => exact q2 rfl
theorem for_loop {turn : PV → Fr → Res Fl} (I : List PV → Fr → Prop) (hend : ∀ ρ, I [] ρ → Q .nx ρ) (step : ∀ x r ρ, I (x :: r) ρ → (turn x ρ).sat (fun f ρ1 => match f with
    | .nx => I r ρ1
    | .ct => I r ρ1
    | .bk => Q .nx ρ1
    | .rt p => Q (.rt p) ρ1) E) : ∀ (xs : List PV) (ρ : Fr), I xs ρ → (forL turn xs ρ).sat Q E
  | [], ρ, h => hend ρ h
  | x :: r, ρ, h => by
    have s := step x r ρ h
    unfold forL
    cases e : turn x ρ with
    | bad => rw [e] at s; exact s
    | ex x ρ1 => rw [e] at s; exact s
    | ok f ρ1 =>
      rw [e] at s
      cases f with
      | nx => exact for_loop I hend step r ρ1 s
      | ct => exact for_loop I hend step r ρ1 s
      | bk => exact s
      | rt p => exact s
theorem k_for {tg : IT} {src : ISrc} {body : List IS} (I : List PV → Fr → Prop) (h : (evSrc c src ρ).sat (fun xs ρ1 => I xs ρ1) E) (hend : ∀ ρ, I [] ρ → Q .nx ρ) (step : ∀ x r ρ, I (x :: r) ρ → ∃ ρ2, asg tg x ρ = some ρ2 ∧ (evB c body ρ2).sat (fun f ρ1 => match f with
    | .nx => I r ρ1
    | .ct => I r ρ1
    | .bk => Q .nx ρ1
    | .rt p => Q (.rt p) ρ1) E) : (evS c (.fors tg src body) ρ).sat Q E := by
  simp only [evS]
  refine sat_bind.mpr (h.mono fun xs ρ1 h0 => for_loop I hend (fun x r ρ hI => ?_) xs ρ1 h0)
  obtain ⟨ρ2, e, q⟩ := step x r ρ hI
  rw [e]
  exact q
theorem whl_loop {t : Fr → Res Bool} {body : Fr → Res Fl} (I : Nat → Fr → Prop) (step : ∀ n ρ, I n ρ → (t ρ).sat (fun k ρ1 => (k = true → ∃ m, n = m + 1 ∧ (body ρ1).sat (fun f ρ2 => match f with
    | .nx => I m ρ2
    | .ct => I m ρ2
    | .bk => Q .nx ρ2
    | .rt p => Q (.rt p) ρ2) E) ∧ (k = false → Q .nx ρ1)) E) : ∀ (n : Nat) (ρ : Fr), I n ρ → ∀ m, n < m → (whlL t body m ρ).sat Q E
  | n, ρ, h, 0, hm => by omega
  | n, ρ, h, m + 1, hm => by
    have s := step n ρ h
    unfold whlL
    refine sat_bind.mpr (s.mono fun k ρ1 ⟨q1, q2⟩ => ?_)
    cases k with
    | false =>
      rw [if_neg Bool.false_ne_true]
      exact q2 rfl
    | true =>
      rw [if_pos rfl]
      obtain ⟨n', e, q⟩ := q1 rfl
      subst e
      cases e : body ρ1 with
      | bad => rw [e] at q; exact q
      | ex x ρ2 => rw [e] at q; exact q
      | ok f ρ2 =>
        rw [e] at q
        cases f with
        | nx => exact whl_loop I step n' ρ2 q m (by omega)
        | ct => exact whl_loop I step n' ρ2 q m (by omega)
        | bk => exact q
        | rt p => exact q
theorem k_whl {t : IE} {body : List IS} (I : Nat → Fr → Prop) (n : Nat) (h0 : I n ρ) (hf : n < c.fuel) (step : ∀ n ρ, I n ρ → (evT c t (evE c t) ρ).sat (fun k ρ1 => (k = true → ∃ m, n = m + 1 ∧ (evB c body ρ1).sat (fun f ρ2 => match f with
    | .nx => I m ρ2
    | .ct => I m ρ2
    | .bk => Q .nx ρ2
    | .rt p => Q (.rt p) ρ2) E) ∧ (k = false → Q .nx ρ1)) E) : (evS c (.whl t body) ρ).sat Q E := by
  simp only [evS]
  exact whl_loop I step n ρ h0 c.fuel hf
end
/-! a call -/
theorem c_run {T : Tb} {fuel n : Nat} {k : Str} {as : List PV} {d : Fd} {Q : PV → Fr → Prop} {E : PX → Fr → Prop} (hT : T k = some d) (hl : as.length = d.ps) (h : (evB ⟨callN T fuel n, lendOf T, fuel, none⟩ d.body (as.map some ++ List.replicate (d.n - d.ps) none)).sat (fun f ρ => match f with
    | .rt p => Q p (maskF d.lend (ρ.take d.ps))
    | .nx => Q .non (maskF d.lend (ρ.take d.ps))
    | _ => False) fun x ρ => E x (maskF d.lend (ρ.take d.ps))) : (callN T fuel (n + 1) k as).sat Q E := by
  simp only [callN, hT, runF]
  rw [if_pos hl]
  cases e : evB ⟨callN T fuel n, lendOf T, fuel, none⟩ d.body (as.map some ++ List.replicate (d.n - d.ps) none) with
  | bad => rw [e] at h; exact h
  | ex x ρ => rw [e] at h; exact h
  | ok f ρ =>
    rw [e] at h
    cases f <;> exact h
theorem sat_true {r : CR} (h : r.sat (fun p _ => p = .bl true) fun _ _ => False) : ∃ as, r = .ok (.bl true) as := by
  cases r with
  | ok p as => exact ⟨as, by rw [show p = .bl true from h]⟩
  | ex => exact h.elim
  | bad => exact h.elim
theorem frz_int {i : Int} : (PV.int i).frz = .int i := rfl
theorem frz_str {i : Str} : (PV.str i).frz = .str i := rfl
theorem frz_bl {i : Bool} : (PV.bl i).frz = .bl i := rfl
theorem frz_non : PV.non.frz = .non := rfl
theorem frz_ty {t : String} : (PV.ty t).frz = .ty t := rfl
end Y
end
section
set_option Elab.async false
set_option linter.all false
set_option maxRecDepth 100000
set_option maxHeartbeats 2000000
set_option autoImplicit false
/-! V1: what is wanted ahead of a piece of the small language: by computation. -/
namespace Y
open PySem
/-- nothing in it held alone -/
def wFrz (p : PV) (k : PV → Prop) : Prop := match p.fz with
  | true => k p
  | false => (match p with
    | .obj _ K fs => ∀ fs', PV.frzL fs = fs' → k (.obj false K fs')
    | p => ∀ p', p.frz = p' → k p')
theorem wFrz_ok {p : PV} {k : PV → Prop} (h : wFrz p k) : k p.frz := by
  unfold wFrz at h
  split at h
  · rename_i e
    rw [PV.fz_frz p e]
    exact h
  · split at h
    · exact h _ rfl
    · exact h _ rfl
theorem bool_go {b : Bool} {x y : Prop} (hb : b = true) (h : x) : match (generalizing := false) b with
    | true => x
    | false => y := by
  subst hb
  exact h
/-- nothing held alone: by instances -/
class Fz (p : PV) : Prop where
  h : p.fz = true
class FzL (xs : List PV) : Prop where
  h : PV.fzL xs = true
instance : Fz .non := ⟨rfl⟩
instance {b : Bool} : Fz (.bl b) := ⟨rfl⟩
instance {i : Int} : Fz (.int i) := ⟨rfl⟩
instance {s : Str} : Fz (.str s) := ⟨rfl⟩
instance {s : String} : Fz (.ty s) := ⟨rfl⟩
instance {s : Str} : Fz (.fn s) := ⟨rfl⟩
instance {k : CK} : Fz (.cl k) := ⟨rfl⟩
instance : Fz .opq := ⟨rfl⟩
instance {xs : List PV} [f : FzL xs] : Fz (.lst false xs) := ⟨by simp [PV.fz, f.h]⟩
instance {xs : List PV} [f : FzL xs] : Fz (.lck xs) := ⟨by simp [PV.fz, f.h]⟩
instance {xs : List PV} [f : FzL xs] : Fz (.tup xs) := ⟨by simp [PV.fz, f.h]⟩
instance {k : CK} {xs : List PV} [f : FzL xs] : Fz (.obj false k xs) := ⟨by simp [PV.fz, f.h]⟩
instance : FzL [] := ⟨rfl⟩
instance {x : PV} {xs : List PV} [f : Fz x] [g : FzL xs] : FzL (x :: xs) := ⟨by simp [PV.fzL, f.h, g.h]⟩
theorem fzL_append : ∀ (xs ys : List PV), PV.fzL (xs ++ ys) = (PV.fzL xs && PV.fzL ys)
  | [], ys => rfl
  | x :: xs, ys => by simp [PV.fzL, fzL_append xs ys, Bool.and_assoc]
instance {xs ys : List PV} [f : FzL xs] [g : FzL ys] : FzL (xs ++ ys) := ⟨by rw [fzL_append, f.h, g.h]; rfl⟩
theorem fzL_mapd {α : Type} {f : α → PV} (h : ∀ x, (f x).fz = true) : ∀ xs : List α, PV.fzL (xs.map f) = true
  | [] => rfl
  | x :: xs => by simp [PV.fzL, h x, fzL_mapd h xs]
instance {α : Type} {f : α → PV} {xs : List α} [h : ∀ x, Fz (f x)] : FzL (xs.map f) := ⟨fzL_mapd (fun x => (h x).h) xs⟩
theorem fz_lst {xs : List PV} (h : PV.fzL xs = true) : (PV.lst false xs).fz = true := by simp [PV.fz, h]
theorem fz_lck {xs : List PV} (h : PV.fzL xs = true) : (PV.lck xs).fz = true := by simp [PV.fz, h]
theorem fz_tup {xs : List PV} (h : PV.fzL xs = true) : (PV.tup xs).fz = true := by simp [PV.fz, h]
theorem frz_go {p : PV} {k : PV → Prop} (hf : p.fz = true) (h : k p) : ∀ p', p.frz = p' → k p' := fun p' e => by
  rw [PV.fz_frz _ hf] at e
  subst e
  exact h
theorem frzL_go {p : List PV} {k : List PV → Prop} (hf : PV.fzL p = true) (h : k p) : ∀ p', PV.frzL p = p' → k p' := fun p' e => by
  rw [PV.fzL_frzL _ hf] at e
  subst e
  exact h
theorem lst_go {o : Bool} {xs : List PV} {k : PV → Prop} (hf : PV.fzL xs = true) (h : k (.lst false xs)) : ∀ p', (PV.lst o xs).frz = p' → k p' := fun p' e => by
  simp only [PV.frz, PV.fzL_frzL xs hf] at e
  subst e
  exact h
@[irreducible] def zC (f : Str → List PV → CR) (k : Str) (as : List PV) (Q : PV → Fr → Prop) (E : PX → Fr → Prop) : Prop := (f k as).sat Q E
/-- a for's loop over items that are known, turn by turn -/
def zU (tg : IT) (body : Fr → (Fl → Fr → Prop) → Prop) : List PV → Fr → (Fl → Fr → Prop) → Prop
  | [], ρ, Q => Q .nx ρ
  | x :: r, ρ, Q => ∃ ρ2, asg tg x ρ = some ρ2 ∧ body ρ2 fun f ρ1 => match f with
    | .nx => zU tg body r ρ1 Q
    | .ct => zU tg body r ρ1 Q
    | .bk => Q .nx ρ1
    | .rt p => Q (.rt p) ρ1
@[irreducible] def zF (tg : IT) (body : Fr → (Fl → Fr → Prop) → Prop) (xs : List PV) (ρ : Fr) (Q : Fl → Fr → Prop) (E : PX → Fr → Prop) : Prop := (∃ I : List PV → Fr → Prop, I xs ρ ∧ (∀ ρ, I [] ρ → Q .nx ρ) ∧ ∀ x r ρ, I (x :: r) ρ → ∃ ρ2, asg tg x ρ = some ρ2 ∧ body ρ2 fun f ρ1 => match f with
    | .nx => I r ρ1
    | .ct => I r ρ1
    | .bk => Q .nx ρ1
    | .rt p => Q (.rt p) ρ1) ∨ zU tg body xs ρ Q
@[irreducible] def zW (fuel : Nat) (t : Fr → (Bool → Fr → Prop) → Prop) (body : Fr → (Fl → Fr → Prop) → Prop) (ρ : Fr) (Q : Fl → Fr → Prop) (E : PX → Fr → Prop) : Prop := ∃ (I : Nat → Fr → Prop) (n : Nat), I n ρ ∧ n < fuel ∧ ∀ n ρ, I n ρ → t ρ fun k ρ1 => (k = true → ∃ m, n = m + 1 ∧ body ρ1 fun f ρ2 => match f with
    | .nx => I m ρ2
    | .ct => I m ρ2
    | .bk => Q .nx ρ2
    | .rt p => Q (.rt p) ρ2) ∧ (k = false → Q .nx ρ1)
/-- a comprehension over items that are known -/
def zV (tg : IT) (own : List Nat) (ifs : Fr → (Bool → Fr → Prop) → Prop) (elt : Fr → (PV → Fr → Prop) → Prop) : List PV → List PV → Fr → (List PV → Fr → Prop) → Prop
  | [], acc, ρ, Q => Q acc ρ
  | x :: r, acc, ρ, Q => ∃ ρ2, asg tg x ρ = some ρ2 ∧ ifs ρ2 fun k ρ3 => (k = true → elt ρ3 fun y ρ4 => wFrz y fun y' => acc.length < sizeLine ∧ zV tg own ifs elt r (acc ++ [y']) (wipeF ρ4 own) Q) ∧ (k = false → zV tg own ifs elt r acc (wipeF ρ3 own) Q)
@[irreducible] def zK (tg : IT) (own : List Nat) (ifs : Fr → (Bool → Fr → Prop) → Prop) (elt : Fr → (PV → Fr → Prop) → Prop) (xs : List PV) (ρ : Fr) (Q : PV → Fr → Prop) : Prop := (∃ I : List PV → List PV → Fr → Prop, I xs [] (wipeF (frzAt ρ own) own) ∧ (∀ ys ρ2, I [] ys ρ2 → Q (.lst true ys) (backB (frzAt ρ own) ρ2 own)) ∧
  ∀ x r acc ρ, I (x :: r) acc ρ → ∃ ρ2, asg tg x ρ = some ρ2 ∧ ifs ρ2 fun k ρ3 => (k = true → elt ρ3 fun y ρ4 => ∃ y', y.frz = y' ∧ acc.length < sizeLine ∧ I r (acc ++ [y']) (wipeF ρ4 own)) ∧ (k = false → I r acc (wipeF ρ3 own))) ∨
  zV tg own ifs elt xs [] (wipeF (frzAt ρ own) own) fun ys ρ2 => Q (.lst true ys) (backB (frzAt ρ own) ρ2 own)
@[irreducible] def zKv (tg : IT) (own : List Nat) (i : Nat) (ifs : Fr → (Bool → Fr → Prop) → Prop) (elt : Fr → (PV → Fr → Prop) → Prop) (n : Nat) (ρ : Fr) (Q : PV → Fr → Prop) : Prop := own.contains i = false ∧ ∃ I : Nat → List PV → Fr → Prop, I 0 [] (wipeF (frzAt ρ own) own) ∧ (∀ ys ρ2, I n ys ρ2 → vwLen ρ2 i n = true ∧ Q (.lst true ys) (backB (frzAt ρ own) ρ2 own)) ∧
  ∀ j acc ρ, j < n → I j acc ρ → ∃ x ρ2, vwAt ρ i n j = some x ∧ asg tg x ρ = some ρ2 ∧ ifs ρ2 fun k ρ3 => (k = true → elt ρ3 fun y ρ4 => ∃ y', y.frz = y' ∧ acc.length < sizeLine ∧ I (j + 1) (acc ++ [y']) (wipeF ρ4 own)) ∧ (k = false → I (j + 1) acc (wipeF ρ3 own))
@[irreducible] def zFv (tg : IT) (i : Nat) (body : Fr → (Fl → Fr → Prop) → Prop) (n : Nat) (ρ : Fr) (Q : Fl → Fr → Prop) (E : PX → Fr → Prop) : Prop := ∃ I : Nat → Fr → Prop, I 0 ρ ∧ (∀ ρ, I n ρ → vwLen ρ i n = true ∧ Q .nx ρ) ∧ ∀ j ρ, j < n → I j ρ → ∃ x ρ2, vwAt ρ i n j = some x ∧ asg tg x ρ = some ρ2 ∧ body ρ2 fun f ρ1 => match f with
    | .nx => I (j + 1) ρ1
    | .ct => I (j + 1) ρ1
    | .bk => Q .nx ρ1
    | .rt p => Q (.rt p) ρ1
def wFrzL : List PV → (List PV → Prop) → Prop
  | [], k => k []
  | p :: r, k => wFrz p fun p' => wFrzL r fun r' => k (p' :: r')
theorem wFrzL_ok : ∀ {ps : List PV} {k : List PV → Prop}, wFrzL ps k → k (PV.frzL ps)
  | [], _, h => h
  | p :: r, k, h => wFrzL_ok (k := fun r' => k (p.frz :: r')) (wFrz_ok h)
/-- an operation -/
def wOp (f : Op) (ps : List PV) (k : PV → Prop) : Prop := match f, ps with
  | .bin .Add, [.int i, .int j] => k (.int (i + j))
  | .bin .Sub, [.int i, .int j] => k (.int (i - j))
  | .bin .Mod, [.int i, .int j] => 0 < j ∧ k (.int (i % j))
  | .bin .FloorDiv, [.int i, .int j] => (0 < j ∧ j.natAbs.log2 < 9000) ∧ k (.int (i / j))
  | .bin .Mult, [.int i, .int j] => ((-(2 ^ 64) < i ∧ i < 2 ^ 64) ∨ (-(2 ^ 64) < j ∧ j < 2 ^ 64)) ∧ k (.int (i * j))
  | .bin .Add, [.str x, .str y] => okS (x.length + y.length) = true ∧ k (.str (x ++ y))
  | .bin .Add, [.lst _ xs, .lst _ ys] => (okS (xs.length + ys.length) = true ∧ PV.fzL xs = true ∧ PV.fzL ys = true) ∧ k (.lst true (xs ++ ys))
  | .cmp .Eq, [.int i, .int j] => k (.bl (decide (i = j)))
  | .cmp .NotEq, [.int i, .int j] => k (.bl (!decide (i = j)))
  | .cmp .Eq, [.str i, .str j] => k (.bl (decide (i = j)))
  | .cmp .NotEq, [.str i, .str j] => k (.bl (!decide (i = j)))
  | .cmp .Lt, [.int i, .int j] => k (.bl (decide (i < j)))
  | .cmp .LtE, [.int i, .int j] => k (.bl (decide (i ≤ j)))
  | .cmp .Gt, [.int i, .int j] => k (.bl (decide (j < i)))
  | .cmp .GtE, [.int i, .int j] => k (.bl (decide (j ≤ i)))
  | .cmp .Lt, [.str i, .str j] => k (.bl (decide (i.cps.toList < j.cps.toList)))
  | .cmp .LtE, [.str i, .str j] => k (.bl (decide (i.cps.toList ≤ j.cps.toList)))
  | .cmp .Is, [.non, .non] => k (.bl true)
  | .cmp .Is, [.int _, .non] => k (.bl false)
  | .cmp .Is, [.str _, .non] => k (.bl false)
  | .cmp .Is, [.lst _ _, .non] => k (.bl false)
  | .cmp .Is, [.tup _, .non] => k (.bl false)
  | .cmp .IsNot, [.non, .non] => k (.bl false)
  | .cmp .IsNot, [.int _, .non] => k (.bl true)
  | .cmp .IsNot, [.str _, .non] => k (.bl true)
  | .cmp .IsNot, [.lst _ _, .non] => k (.bl true)
  | .cmp .IsNot, [.tup _, .non] => k (.bl true)
  | .neg, [.int i] => k (.int (-i))
  | .not, [.bl b] => k (.bl (!b))
  | .len, [.lst _ xs] => k (.int xs.length)
  | .len, [.lck xs] => k (.int xs.length)
  | .len, [.tup xs] => k (.int xs.length)
  | .len, [.str x] => okS x.length = true ∧ k (.int x.length)
  | .list, [.lst _ xs] => PV.fzL xs = true ∧ k (.lst true xs)
  | .list, [.lck xs] => PV.fzL xs = true ∧ k (.lst true xs)
  | .list, [.tup xs] => PV.fzL xs = true ∧ k (.lst true xs)
  | .int, [.int i] => k (.int i)
  | .int, [.bl b] => k (.int (if b then 1 else 0))
  | .str, [.int i] => i.natAbs.log2 < 1920 ∧ k (.str (toString i))
  | .ix, [.lst _ xs, .int i] => ∃ x, L2.atI xs i = some x ∧ x.fz = true ∧ k x
  | .ix, [.lck xs, .int i] => ∃ x, L2.atI xs i = some x ∧ x.fz = true ∧ k x
  | .ix, [.tup xs, .int i] => ∃ x, L2.atI xs i = some x ∧ x.fz = true ∧ k x
  | .ix, [.str z, .int i] => okS z.length = true ∧ ∃ x, L2.atI z.cps.toList i = some x ∧ k (.str ⟨#[x]⟩)
  | .slice false true, [.lst _ xs, .int j] => PV.fzL xs = true ∧ k (.lst true (cutP xs none (some j)))
  | .slice true false, [.lst _ xs, .int j] => PV.fzL xs = true ∧ k (.lst true (cutP xs (some j) none))
  | .slice false false, [.lst _ xs] => PV.fzL xs = true ∧ k (.lst true xs)
  | .isi, [.int _, .ty T] => isiOk.contains T = true ∧ k (.bl (isiT "int" T))
  | .isi, [.str _, .ty T] => isiOk.contains T = true ∧ k (.bl (isiT "str" T))
  | .isi, [.bl _, .ty T] => isiOk.contains T = true ∧ k (.bl (isiT "bool" T))
  | .isi, [.non, .ty T] => isiOk.contains T = true ∧ k (.bl (isiT "NoneType" T))
  | .isi, [.lst _ _, .ty T] => isiOk.contains T = true ∧ k (.bl (isiT "list" T))
  | .isi, [.tup _, .ty T] => isiOk.contains T = true ∧ k (.bl (isiT "tuple" T))
  | .min2, [.int i, .int j] => k (.int (if j < i then j else i))
  | .slice false true, [.str z, .int j] => okS z.length = true ∧ k (.str (L2.cutS z none (some j)))
  | .slice true false, [.str z, .int j] => okS z.length = true ∧ k (.str (L2.cutS z (some j) none))
  | .isi, [.obj _ _ _, .ty T] => isiOk.contains T = true ∧ k (.bl false)
  | f, ps => ∃ r, opN f ps = some r ∧ k r
theorem n_mod {i j : Int} (h : 0 < j) : opN (.bin .Mod) [.int i, .int j] = some (.int (i % j)) := by
  show (if decide (0 < j) then some (PV.int (i % j)) else none) = _
  rw [decide_eq_true h]
  rfl
theorem n_fdiv {i j : Int} (h : 0 < j) (h2 : j.natAbs.log2 < 9000) : opN (.bin .FloorDiv) [.int i, .int j] = some (.int (i / j)) := by
  show (if decide (0 < j ∧ j.natAbs.log2 < 9000) then some (PV.int (i / j)) else none) = _
  rw [decide_eq_true ⟨h, h2⟩]
  rfl
theorem n_mul {i j : Int} (h : -(2 ^ 64) < j ∧ j < 2 ^ 64) : opN (.bin .Mult) [.int i, .int j] = some (.int (i * j)) := by
  show (if decide ((-(2 ^ 64) < i ∧ i < 2 ^ 64) ∨ (-(2 ^ 64) < j ∧ j < 2 ^ 64)) then some (PV.int (i * j)) else none) = _
  rw [decide_eq_true (Or.inr h)]
  rfl
theorem n_ix {o : Bool} {xs : List PV} {i : Int} {x : PV} (h : L2.atI xs i = some x) (hf : x.fz = true) : opN .ix [.lst o xs, .int i] = some x := by
  show (match L2.atI xs i with
    | some x => if x.fz then some x else none
    | none => none) = _
  rw [h]
  dsimp only
  rw [if_pos hf]
theorem n_ixk {xs : List PV} {i : Int} {x : PV} (h : L2.atI xs i = some x) (hf : x.fz = true) : opN .ix [.lck xs, .int i] = some x := by
  show (match L2.atI xs i with
    | some x => if x.fz then some x else none
    | none => none) = _
  rw [h]
  dsimp only
  rw [if_pos hf]
theorem n_ixt {xs : List PV} {i : Int} {x : PV} (h : L2.atI xs i = some x) (hf : x.fz = true) : opN .ix [.tup xs, .int i] = some x := by
  show (match L2.atI xs i with
    | some x => if x.fz then some x else none
    | none => none) = _
  rw [h]
  dsimp only
  rw [if_pos hf]
theorem n_ixs {z : Str} {i : Int} {x : Nat} (h0 : okS z.length = true) (h : L2.atI z.cps.toList i = some x) : opN .ix [.str z, .int i] = some (.str ⟨#[x]⟩) := by
  show (if okS z.length then (L2.atI z.cps.toList i).map fun c => PV.str ⟨#[c]⟩ else none) = _
  rw [if_pos h0, h]
  rfl
theorem cut_all {α : Type} (xs : List α) : cutP xs none none = xs := by
  simp [cutP, HT.sIx]
theorem eqv_int (i j : Int) : PyData.eqv (.int i) (.int j) = decide (i = j) := by
  simp [PyData.eqv]
  try rfl
theorem eqv_str (i j : Str) : PyData.eqv (.str i) (.str j) = decide (i = j) := by
  simp [PyData.eqv]
  try rfl
theorem wOp_ok {f : Op} {ps : List PV} {k : PV → Prop} (h : wOp f ps k) : ∃ r, opN f ps = some r ∧ k r := by
  unfold wOp at h
  split at h
  case h_3 => exact ⟨_, n_mod h.1, h.2⟩
  case h_4 => exact ⟨_, n_fdiv h.1.1 h.1.2, h.2⟩
  case h_5 =>
    refine ⟨_, ?_, h.2⟩
    show (if decide _ then _ else none) = _
    rw [decide_eq_true h.1]
    rfl
  case h_6 =>
    refine ⟨_, ?_, h.2⟩
    show (if _ then _ else none) = _
    rw [if_pos h.1]
  case h_7 =>
    refine ⟨_, ?_, h.2⟩
    show (if _ then _ else none) = _
    rw [if_pos (by simp only [h.1, Bool.and_self])]
  case h_8 => exact ⟨_, rfl, by simpa only [eqv_int] using h⟩
  case h_9 => exact ⟨_, rfl, by simpa only [eqv_int] using h⟩
  case h_10 => exact ⟨_, rfl, by simpa only [eqv_str] using h⟩
  case h_11 => exact ⟨_, rfl, by simpa only [eqv_str] using h⟩
  case h_56 =>
    refine ⟨_, ?_, h.2⟩
    show (if _ then _ else none) = _
    rw [if_pos h.1]
    rfl
  case h_46 =>
    refine ⟨_, ?_, h.2⟩
    show (if _ then _ else none) = _
    rw [if_pos h.1, cut_all]
  all_goals first
    | exact ⟨_, rfl, h⟩
    | (refine ⟨_, ?_, h.2⟩
       show (if _ then _ else none) = _
       rw [if_pos h.1])
    | (refine ⟨_, ?_, h.2⟩
       show (if decide _ then _ else none) = _
       rw [decide_eq_true h.1]
       rfl)
    | (obtain ⟨x, h1, h2, h3⟩ := h
       exact ⟨x, n_ix h1 h2, h3⟩)
    | (obtain ⟨x, h1, h2, h3⟩ := h
       exact ⟨x, n_ixk h1 h2, h3⟩)
    | (obtain ⟨x, h1, h2, h3⟩ := h
       exact ⟨x, n_ixt h1 h2, h3⟩)
    | (obtain ⟨h0, x, h1, h3⟩ := h
       exact ⟨_, n_ixs h0 h1, h3⟩)
    | exact h
    | skip
/-! ### by computation -/
def wRng (ps : List PV) (k : List PV → Prop) : Prop := match ps with
  | [.int j] => (-(2 ^ 62) ≤ j ∧ j < 2 ^ 62) ∧ k (rngI 0 j.toNat)
  | [.int i, .int j] => ((-(2 ^ 62) ≤ i ∧ i < 2 ^ 62) ∧ (-(2 ^ 62) ≤ j ∧ j < 2 ^ 62)) ∧ k (rngI i (j - i).toNat)
  | _ => False
theorem wRng_ok {ps : List PV} {k : List PV → Prop} (h : wRng ps k) : ∃ xs, rngN ps = some xs ∧ k xs := by
  unfold wRng at h
  split at h
  · refine ⟨_, ?_, h.2⟩
    show (if small62 _ then _ else none) = _
    rw [if_pos (show small62 _ = true from decide_eq_true h.1)]
  · refine ⟨_, ?_, h.2⟩
    show (if small62 _ && small62 _ then _ else none) = _
    rw [if_pos (by rw [show small62 _ = true from decide_eq_true h.1.1, show small62 _ = true from decide_eq_true h.1.2]; rfl)]
  · exact h.elim
/-- a state, told anew slot by slot -/
def zN : Fr → (Fr → Prop) → Prop
  | [], k => k []
  | a :: r, k => zN r fun r' => k (a :: r')
theorem zN_ok : ∀ {ρ : Fr} {k : Fr → Prop}, zN ρ k → k ρ
  | [], _, h => h
  | a :: r, k, h => zN_ok (ρ := r) (k := fun r' => k (a :: r')) h
abbrev NE : PX → Fr → Prop := fun _ _ => False
def wP (e : IE) (run : Fr → (PV → Fr → Prop) → (PX → Fr → Prop) → Prop) (ρ : Fr) (Q : OV → Fr → Prop) (E : PX → Fr → Prop) : Prop := match e with
  | .loc i => (match ρ.at i with
    | some _ => Q (.vw i) ρ
    | none => False)
  | .it i k => (match ρ.at i with
    | some (.tup xs) => (match Nat.blt k xs.length with
      | true => Q (.vi i k) ρ
      | false => False)
    | _ => False)
  | _ => run ρ (fun p ρ1 => wFrz p fun p' => Q (.vl p') ρ1) E
def wG (ln : Bool) (e : IE) (run : Fr → (PV → Fr → Prop) → (PX → Fr → Prop) → Prop) (ρ : Fr) (Q : OV → Fr → Prop) (E : PX → Fr → Prop) : Prop := match ln with
  | true => wP e run ρ Q E
  | false => run ρ (fun p ρ1 => wFrz p fun p' => Q (.vl p') ρ1) E
def wTake : List OV → Fr → (List (PV × Option Nat) → Fr → Prop) → Prop
  | [], ρ, k => k [] ρ
  | .vi _ _ :: _, _, _ => False
  | .vl p :: r, ρ, k => wTake r ρ fun as ρ' => k ((p, none) :: as) ρ'
  | .vw i :: r, ρ, k => (match ρ.at i with
    | some p => (match p.fz with
      | true => wTake r ρ fun as ρ' => k ((p, none) :: as) ρ'
      | false => wTake r (ρ.set i none) fun as ρ' => k ((p, some i) :: as) ρ')
    | none => False)
theorem wTake_ok : ∀ {os : List OV} {ρ : Fr} {k : List (PV × Option Nat) → Fr → Prop}, wTake os ρ k → ∃ as ρ1, takeA os ρ = some (as, ρ1) ∧ k as ρ1
  | [], ρ, k, h => ⟨[], ρ, rfl, h⟩
  | .vl p :: r, ρ, k, h => by
    obtain ⟨as, ρ1, e, q⟩ := wTake_ok (os := r) h
    exact ⟨_, ρ1, by simp only [takeA, e]; rfl, q⟩
  | .vi _ _ :: _, ρ, k, h => by simp only [wTake] at h
  | .vw i :: r, ρ, k, h => by
    have see : ∀ {p : PV}, ρ.at i = some p → p.fz = true → wTake r ρ (fun as ρ' => k ((p, none) :: as) ρ') → ∃ as ρ1, takeA (.vw i :: r) ρ = some (as, ρ1) ∧ k as ρ1 := fun {p} e f h => by
      obtain ⟨as, ρ1, e2, q⟩ := wTake_ok (os := r) h
      refine ⟨_, ρ1, ?_, q⟩
      simp only [takeA, e, f, if_true, e2]
      rfl
    have lend : ∀ {p : PV}, ρ.at i = some p → p.fz = false → wTake r (ρ.set i none) (fun as ρ' => k ((p, some i) :: as) ρ') → ∃ as ρ1, takeA (.vw i :: r) ρ = some (as, ρ1) ∧ k as ρ1 := fun {p} e f h => by
      obtain ⟨as, ρ1, e2, q⟩ := wTake_ok (os := r) h
      refine ⟨_, ρ1, ?_, q⟩
      simp only [takeA, e, f, Bool.false_eq_true, if_false, e2]
      rfl
    simp only [wTake] at h
    split at h
    · rename_i p z
      split at h
      · rename_i e
        exact see z e h
      · rename_i e
        exact lend z e h
    · exact h.elim
/-- a field read -/
def wFld (p : PV) (f : Str) (k : PV → Prop) : Prop := match p with
  | .obj _ K fs => (match K.fn.idxOf? f with
    | some i => (match fs[i]? with
      | some q => q.fz = true ∧ k q
      | none => False)
    | none => (match K.ms.lookup f with
      | some (.cs s) => k (.str s)
      | _ => False))
  | .cl K => (match K.ms.lookup f with
    | some (.cs s) => k (.str s)
    | _ => False)
  | _ => False
theorem wFld_ok {p : PV} {f : Str} {k : PV → Prop} (h : wFld p f k) : ∃ q, fldP p f = some q ∧ k q := by
  unfold wFld at h
  split at h
  · unfold fldP
    dsimp only
    split at h
    · rename_i e1
      try rw [e1]
      try dsimp only
      split at h
      · rename_i e2
        try rw [e2]
        try dsimp only
        rw [if_pos h.1]
        exact ⟨_, rfl, h.2⟩
      · exact h.elim
    · rename_i e1
      try rw [e1]
      try dsimp only
      split at h
      · rename_i e2
        try rw [e2]
        exact ⟨_, rfl, h⟩
      · exact h.elim
  · unfold fldP
    dsimp only
    split at h
    · rename_i e2
      try rw [e2]
      exact ⟨_, rfl, h⟩
    · exact h.elim
  · exact h.elim
/-- the left one's own == may be asked -/
def wEq (p q : PV) : Prop := match p with
  | .obj _ k _ => (match q with
    | .obj _ k' _ => k = k' ∨ k'.up.lookup k.cls = some false
    | q => (tyN q).isSome = true)
  | _ => False
theorem wEq_ok {p q : PV} (h : wEq p q) : eqOk p q = true := by
  cases p <;> first
    | exact h.elim
    | skip
  cases q <;> first
    | exact h
    | skip
  rename_i o k fs o' k' fs'
  unfold eqOk
  dsimp only
  rw [Bool.or_eq_true, decide_eq_true_eq]
  rcases (show k = k' ∨ k'.up.lookup k.cls = some false from h) with h | h
  · exact .inl h
  · exact .inr (by rw [h])
def wTr (p : PV) (Q : Bool → Prop) : Prop := match p with
  | .bl b => Q b
  | .int i => Q (i != 0)
  | .non => Q false
  | .lst _ xs => Q (!xs.isEmpty)
  | .lck xs => Q (!xs.isEmpty)
  | .tup xs => Q (!xs.isEmpty)
  | p => ∃ k, truth p = some k ∧ Q k
/-- a bool that an own operator has answered -/
def wBl (p : PV) (k : Bool → Prop) : Prop := match p with
  | .bl b => k b
  | _ => False
/-- the instance that __init__ has left -/
def wMade (r : PV) (as : Fr) (k : PV → Fr → Prop) : Prop := match r, as with
  | .non, some p :: as2 => k p as2
  | _, _ => False
mutual
def wE (c : Cf) : IE → Fr → (PV → Fr → Prop) → (PX → Fr → Prop) → Prop
  | .cst p, ρ, Q, E => Q p ρ
  | .loc i, ρ, Q, E => (match ρ.at i with
    | some p => wFrz p fun p' => Q p' (ρ.set i (some p'))
    | none => False)
  | .mov i, ρ, Q, E => (match ρ.at i with
    | some p => Q p (ρ.set i none)
    | none => False)
  | .op f es, ρ, Q, E => wO c es ρ (fun os ρ1 => match rsvL ρ1 os with
    | some ps => wOp f ps fun r => Q r ρ1
    | none => False) E
  | .chain f g x y z, ρ, Q, E => wP x (wE c x) ρ (fun o1 ρ1 => wP y (wE c y) ρ1 (fun o2 ρ2 => match rsv ρ2 o1, rsv ρ2 o2 with
    | some p, some q => wOp (.cmp f) [p, q] fun r => match r with
      | .bl k => (k = false → Q (.bl false) ρ2) ∧ (k = true → wP z (wE c z) ρ2 (fun o3 ρ3 => match rsv ρ3 o2, rsv ρ3 o3 with
        | some q', some r' => wOp (.cmp g) [q', r'] fun v => Q v ρ3
        | _, _ => False) E)
      | _ => False
    | _, _ => False) E) E
  | .dcmp f t es u ds, ρ, Q, E => wO c es ρ (fun x ρ1 => okS x.length = true ∧ wO c ds ρ1 (fun y ρ2 => okS y.length = true ∧ match (rsvL ρ2 x).bind (dspP t), (rsvL ρ2 y).bind (dspP u) with
    | some p, some q => wOp (.cmp f) [p, q] fun r => Q r ρ2
    | _, _ => False) E) E
  | .slc x a b, ρ, Q, E => wP x (wE c x) ρ (fun o ρ1 => wP a (wE c a) ρ1 (fun y ρ2 => match rsv ρ2 y with
    | some (.int i) => wP b (wE c b) ρ2 (fun z ρ3 => match rsv ρ3 o, rsv ρ3 z with
      | some p, some (.int j) => ∃ r, sliceN p (some i) (some j) = some r ∧ Q r ρ3
      | _, _ => False) E
    | _ => False) E) E
  | .and a b, ρ, Q, E => wE c a ρ (fun p ρ1 => match p with
    | .bl k => (k = true → wE c b ρ1 Q E) ∧ (k = false → Q (.bl false) ρ1)
    | _ => False) E
  | .or a b, ρ, Q, E => wE c a ρ (fun p ρ1 => match p with
    | .bl k => (k = true → Q (.bl true) ρ1) ∧ (k = false → wE c b ρ1 Q E)
    | _ => False) E
  | .ite t a b, ρ, Q, E => wT c t (wE c t) ρ (fun k ρ1 => (k = true → wE c a ρ1 Q E) ∧ (k = false → wE c b ρ1 Q E)) E
  | .lst es, ρ, Q, E => wL c es ρ (fun ps ρ1 => okS ps.length = true ∧ wFrzL ps fun qs => Q (.lst true qs) ρ1) E
  | .tup es, ρ, Q, E => wL c es ρ (fun ps ρ1 => okS ps.length = true ∧ wFrzL ps fun qs => Q (.tup qs) ρ1) E
  | .call k ls es, ρ, Q, E => wA c ls es ρ (fun os ρ0 => wTake os ρ0 fun as ρ1 => zC c.call k (as.map (·.1)) (fun r as' => Q r (give (as.map (·.2)) as' ρ1)) fun x as' => E x (give (as.map (·.2)) as' ρ1)) E
  | .compv elt tg i ifs own, ρ, Q, E => (match lenAt ρ i with
    | some n => zKv tg own i (fun ρ Q => wI c ifs ρ Q NE) (fun ρ Q => wE c elt ρ Q NE) n ρ Q
    | none => False)
  | .comp elt tg src ifs own, ρ, Q, E => wSrc c src ρ (fun xs ρ1 => zK tg own (fun ρ Q => wI c ifs ρ Q NE) (fun ρ Q => wE c elt ρ Q NE) xs ρ1 Q) E
  | .tupo es, ρ, Q, E => wL c es ρ (fun ps ρ1 => okS ps.length = true ∧ Q (.tup ps) ρ1) E
  | .it _ _, _, _, _ => False
  | .cal h st ls es ss rs, ρ, Q, E => wHd c h ρ (fun hd ρ0 => wX c st ls es ρ0 (fun os ρ1 => match bindO st ss rs os with
    | some os => (match hd with
      | .key k pre => wTake (pre ++ os) ρ1 fun as ρ2 => zC c.call k (as.map (·.1)) (fun r as' => Q r (give (as.map (·.2)) as' ρ2)) fun x as' => E x (give (as.map (·.2)) as' ρ2)
      | .mk k K => wTake os ρ1 fun as ρ2 => zC c.call k (.obj true K [] :: as.map (·.1)) (fun r as' => wMade r as' fun p as2 => Q p (give (as.map (·.2)) as2 ρ2)) fun x as' => match as' with
        | _ :: as2 => E x (give (as.map (·.2)) as2 ρ2)
        | [] => False)
    | none => False) E) E
  | .fld e f, ρ, Q, E => wP e (wE c e) ρ (fun o ρ1 => match rsv ρ1 o with
    | some p => wFld p f fun q => Q q ρ1
    | none => False) E
  | .dsp t st es, ρ, Q, E => wL c es ρ (fun ps ρ1 => wFrzL ps fun ps' => match dspI st ps' with
    | some qs => okS qs.length = true ∧ Q (match t with
      | true => .tup qs
      | false => .lst true qs) ρ1
    | none => False) E
  | .dun m a b, ρ, Q, E => wE c a ρ (fun p ρ1 => wE c b ρ1 (fun q ρ2 => wFrz p fun p' => wFrz q fun q' => match methOf p' m with
    | some (.key k [.vl p2]) => zC c.call k [p2, q'] (fun r _ => Q r ρ2) NE
    | _ => False) E) E
  | .has a b, ρ, Q, E => wE c a ρ (fun p ρ1 => wE c b ρ1 (fun q ρ2 => wFrz p fun p' => wFrz q fun q' => match isObj q', methOf q' "__contains__" with
    | true, some (.key k [.vl q2]) => zC c.call k [q2, p'] (fun r _ => wBl r fun b => Q (.bl b) ρ2) NE
    | _, _ => False) E) E
  | .lidx a b, ρ, Q, E => wE c a ρ (fun p ρ1 => wFrz p fun p' => match lstOf p' with
    | some _ => wE c b ρ1 (fun q ρ2 => wFrz q fun q' => ∃ r, indexP p' q' = some r ∧ Q r ρ2) E
    | none => False) E
  | .oeq ng a b, ρ, Q, E => wE c a ρ (fun p ρ1 => wE c b ρ1 (fun q ρ2 => wFrz p fun p' => wFrz q fun q' => wEq p' q' ∧ match ng, methOf p' "__eq__" with
    | false, some (.key k [.vl p2]) => zC c.call k [p2, q'] (fun r _ => wBl r fun b => Q (.bl b) ρ2) NE
    | _, _ => False) E) E
  | .dsel ks es e, ρ, Q, E => wL c es ρ (fun ps ρ1 => wE c e ρ1 (fun q ρ2 => wFrzL ps fun ps' => ∃ r, selP ks ps' q = some r ∧ Q r ρ2) E) E
  | .hx, ρ, Q, E => (match c.cur with
    | some _ => Q .opq ρ
    | none => False)
  | .comp2 _ _ _ _ _ _ _, _, _, _ => False
  | .xf f, ρ, Q, E => (match c.cur with
    | some x => (match x.fs.lookup f with
      | some p => Q p ρ
      | none => False)
    | none => False)
  | .xi t, ρ, Q, E => (match c.cur with
    | some x => (match x.xd.ty.lookup t with
      | some b => Q (.bl b) ρ
      | none => False)
    | none => False)
def wHd (c : Cf) : CH → Fr → (HR → Fr → Prop) → (PX → Fr → Prop) → Prop
  | .fn k, ρ, Q, E => Q (.key k []) ρ
  | .new K, ρ, Q, E => (match initOf K with
    | some k => Q (.mk k K) ρ
    | none => False)
  | .newv i K, ρ, Q, E => (match ρ.at i with
    | some (.cl K') => K = K' ∧ (match initOf K with
      | some k => Q (.mk k K) ρ
      | none => False)
    | _ => False)
  | .sup k, ρ, Q, E => Q (.key k [.vw 0]) ρ
  | .mth e m cs, ρ, Q, E => wE c e ρ (fun p ρ1 => match fitC cs p with
    | true => wFrz p fun p' => (match methOf p' m with
      | some h => Q h ρ1
      | none => False)
    | false => False) E
  | .ocl e, ρ, Q, E => wE c e ρ (fun p ρ1 => wFrz p fun p' => match methOf p' "__call__" with
    | some h => Q h ρ1
    | none => False) E
def wT (c : Cf) : IE → (Fr → (PV → Fr → Prop) → (PX → Fr → Prop) → Prop) → Fr → (Bool → Fr → Prop) → (PX → Fr → Prop) → Prop
  | .and a b, run, ρ, Q, E => wT c a (wE c a) ρ (fun k ρ1 => (k = true → wT c b (wE c b) ρ1 Q E) ∧ (k = false → Q false ρ1)) E
  | .or a b, run, ρ, Q, E => wT c a (wE c a) ρ (fun k ρ1 => (k = true → Q true ρ1) ∧ (k = false → wT c b (wE c b) ρ1 Q E)) E
  | .op .not [e], run, ρ, Q, E => wT c e (wE c e) ρ (fun k ρ1 => Q (!k) ρ1) E
  | .op f es, run, ρ, Q, E => run ρ (fun p ρ1 => match p with
    | .bl k => Q k ρ1
    | _ => False) E
  | .dcmp _ _ _ _ _, run, ρ, Q, E => run ρ (fun p ρ1 => match p with
    | .bl k => Q k ρ1
    | _ => False) E
  | .chain _ _ _ _ _, run, ρ, Q, E => run ρ (fun p ρ1 => match p with
    | .bl k => Q k ρ1
    | _ => False) E
  | .oeq _ _ _, run, ρ, Q, E => run ρ (fun p ρ1 => wBl p fun k => Q k ρ1) E
  | .has _ _, run, ρ, Q, E => run ρ (fun p ρ1 => wBl p fun k => Q k ρ1) E
  | e, run, ρ, Q, E => wP e run ρ (fun o ρ1 => match rsv ρ1 o with
    | some p => wTr p fun k => Q k ρ1
    | none => False) E
def wI (c : Cf) : List IE → Fr → (Bool → Fr → Prop) → (PX → Fr → Prop) → Prop
  | [], ρ, Q, E => Q true ρ
  | [e], ρ, Q, E => wT c e (wE c e) ρ Q E
  | _, _, _, _ => False
def wO (c : Cf) : List IE → Fr → (List OV → Fr → Prop) → (PX → Fr → Prop) → Prop
  | [], ρ, Q, E => Q [] ρ
  | e :: es, ρ, Q, E => wP e (wE c e) ρ (fun o ρ1 => wO c es ρ1 (fun os ρ2 => Q (o :: os) ρ2) E) E
def wL (c : Cf) : List IE → Fr → (List PV → Fr → Prop) → (PX → Fr → Prop) → Prop
  | [], ρ, Q, E => Q [] ρ
  | e :: es, ρ, Q, E => wE c e ρ (fun o ρ1 => wL c es ρ1 (fun os ρ2 => Q (o :: os) ρ2) E) E
def wA (c : Cf) : List Bool → List IE → Fr → (List OV → Fr → Prop) → (PX → Fr → Prop) → Prop
  | _, [], ρ, Q, E => Q [] ρ
  | ls, e :: es, ρ, Q, E => wG (ls.headD false) e (wE c e) ρ (fun o ρ1 => wA c ls.tail es ρ1 (fun os ρ2 => Q (o :: os) ρ2) E) E
def wX (c : Cf) : List Bool → List Bool → List IE → Fr → (List OV → Fr → Prop) → (PX → Fr → Prop) → Prop
  | _, _, [], ρ, Q, E => Q [] ρ
  | st, ls, e :: es, ρ, Q, E => (match st.headD false with
    | true => wE c e ρ (fun p ρ1 => wFrz p fun p' => match seqOf p' with
      | some _ => wX c st.tail ls.tail es ρ1 (fun os ρ2 => Q (.vl p' :: os) ρ2) E
      | none => False) E
    | false => wG (ls.headD false) e (wE c e) ρ (fun o ρ1 => wX c st.tail ls.tail es ρ1 (fun os ρ2 => Q (o :: os) ρ2) E) E)
def wSrc (c : Cf) : ISrc → Fr → (List PV → Fr → Prop) → (PX → Fr → Prop) → Prop
  | .it e, ρ, Q, E => wE c e ρ (fun p ρ1 => wFrz p fun p' => ∃ xs, srcOf p' = some xs ∧ Q xs ρ1) E
  | .rng es, ρ, Q, E => wO c es ρ (fun os ρ1 => match rsvL ρ1 os with
    | some ps => wRng ps fun xs => Q xs ρ1
    | none => False) E
  | .enm e, ρ, Q, E => wE c e ρ (fun p ρ1 => wFrz p fun p' => ∃ xs, enmP [p'] = some xs ∧ Q xs ρ1) E
  | .zp a b, ρ, Q, E => wE c a ρ (fun p ρ1 => wE c b ρ1 (fun q ρ2 => ∃ xs, zipP [p.frz, q.frz] = some xs ∧ Q xs ρ2) E) E
end
mutual
def wS (c : Cf) : IS → Fr → (Fl → Fr → Prop) → (PX → Fr → Prop) → Prop
  | .set i e, ρ, Q, E => wE c e ρ (fun p ρ1 => match Nat.blt i ρ1.length with
    | true => Q .nx (ρ1.set i (some p))
    | false => False) E
  | .asg tg e, ρ, Q, E => wE c e ρ (fun p ρ1 => wFrz p fun p' => ∃ ρ2, asg tg p' ρ1 = some ρ2 ∧ Q .nx ρ2) E
  | .par is es, ρ, Q, E => wL c es ρ (fun ps ρ1 => ∃ ρ2, putL is ps ρ1 = some ρ2 ∧ Q .nx ρ2) E
  | .aug i o e, ρ, Q, E => (match ρ.at i with
    | some q => wE c e ρ (fun p ρ1 => match q, p, o with
      | .int a, .int b, .Add => Q .nx (ρ1.set i (some (.int (a + b))))
      | .int a, .int b, .Sub => Q .nx (ρ1.set i (some (.int (a - b))))
      | _, _, _ => False) E
    | none => False)
  | .sub i ix e, ρ, Q, E => wE c e ρ (fun p ρ1 => wFrz p fun p' => match ρ1.at i with
    | some (.lst _ _) => wP ix (wE c ix) ρ1 (fun o ρ2 => match ρ2.at i, rsv ρ2 o with
      | some (.lst true xs), some (.int k) => ∃ j, L2.ixN xs.length k = some j ∧ Q .nx (ρ2.set i (some (.lst true (xs.set j p'))))
      | _, _ => False) E
    | _ => False) E
  | .app i e, ρ, Q, E => (match ρ.at i with
    | some (.lst _ _) => wE c e ρ (fun p ρ1 => wFrz p fun p' => match ρ1.at i with
      | some (.lst true xs) => xs.length < sizeLine ∧ Q .nx (ρ1.set i (some (.lst true (xs ++ [p']))))
      | _ => False) E
    | _ => False)
  | .ext i e, ρ, Q, E => (match ρ.at i with
    | some (.lst _ _) => wE c e ρ (fun p ρ1 => wFrz p fun p' => match ρ1.at i, p' with
      | some (.lst true xs), .lst _ ys => xs.length + ys.length ≤ sizeLine ∧ Q .nx (ρ1.set i (some (.lst true (xs ++ ys))))
      | _, _ => False) E
    | _ => False)
  | .exp e, ρ, Q, E => wE c e ρ (fun _ ρ1 => Q .nx ρ1) E
  | .ret e, ρ, Q, E => wE c e ρ (fun p ρ1 => Q (.rt p) ρ1) E
  | .retN, ρ, Q, E => Q (.rt .non) ρ
  | .ife t a b, ρ, Q, E => wT c t (wE c t) ρ (fun k ρ1 => (k = true → wB c a ρ1 Q E) ∧ (k = false → wB c b ρ1 Q E)) E
  | .fors tg src body, ρ, Q, E => wSrc c src ρ (fun xs ρ1 => zF tg (fun ρ Q => wB c body ρ Q E) xs ρ1 Q E) E
  | .forv tg i body, ρ, Q, E => (match lenAt ρ i with
    | some n => zFv tg i (fun ρ Q => wB c body ρ Q E) n ρ Q E
    | none => False)
  | .whl t body, ρ, Q, E => zW c.fuel (fun ρ Q => wT c t (wE c t) ρ Q E) (fun ρ Q => wB c body ρ Q E) ρ Q E
  | .brk, ρ, Q, E => Q .bk ρ
  | .cnt, ρ, Q, E => Q .ct ρ
  | .pas, ρ, Q, E => Q .nx ρ
  | .rai d es, ρ, Q, E => wL c es ρ (fun ps ρ1 => match Nat.beq ps.length d.fs.length with
    | true => wFrzL ps fun qs => E ⟨d, d.fs.zip qs⟩ ρ1
    | false => False) E
  | .raif d es, ρ, Q, E => (match c.cur with
    | some _ => wL c es ρ (fun ps ρ1 => match Nat.beq ps.length d.fs.length with
      | true => wFrzL ps fun qs => E ⟨d, d.fs.zip qs⟩ ρ1
      | false => False) E
    | none => False)
  | .fst i f e, ρ, Q, E => wE c e ρ (fun p ρ1 => wFrz p fun p' => match ρ1.at i with
    | some (.obj true K fs) => (match K.fn.idxOf? f with
      | some j => (match Nat.beq j fs.length with
        | true => Q .nx (ρ1.set i (some (.obj true K (fs ++ [p']))))
        | false => (j < fs.length ∧ K.sl = none) ∧ Q .nx (ρ1.set i (some (.obj true K (fs.set j p')))))
      | none => False)
    | _ => False) E
  | .tryx body hs, ρ, Q, E => wB c body ρ Q (fun x ρ1 => wH c hs x ρ1 Q E)
  | .appi i k x, ρ, Q, E => (match ρ.at i with
    | some (.tup xs) => (match xs[k]? with
      | some (.lst true ys) => ys.length < sizeLine ∧ Q .nx (ρ.set i (some (.tup (xs.set k (.lst true (ys ++ [.str x]))))))
      | _ => False)
    | _ => False)
def wH (c : Cf) : IH → PX → Fr → (Fl → Fr → Prop) → (PX → Fr → Prop) → Prop
  | .nil, x, ρ, Q, E => E x ρ
  | .cons k i suite r, x, ρ, Q, E => (match x.xd.rel.lookup k with
    | some true => (match i with
      | some i => (match Nat.blt i ρ.length with
        | true => wB { c with cur := some x } suite (ρ.set i none) (fun f ρ' => Q f (ρ'.set i none)) NE
        | false => False)
      | none => wB c suite ρ Q NE)
    | some false => wH c r x ρ Q E
    | none => False)
def wB (c : Cf) : List IS → Fr → (Fl → Fr → Prop) → (PX → Fr → Prop) → Prop
  | [], ρ, Q, E => Q .nx ρ
  | s :: r, ρ, Q, E => wS c s ρ (fun f ρ1 => match f with
    | .nx => zN ρ1 fun ρ2 => wB c r ρ2 Q E
    | z => Q z ρ1) E
end
end Y
end
section
set_option Elab.async false
set_option linter.all false
set_option maxRecDepth 100000
set_option maxHeartbeats 4000000
set_option autoImplicit false
/-! V2: .. is enough. -/
namespace Y
open PySem
/-- a run is enough -/
abbrev RunOk (run : Fr → (PV → Fr → Prop) → (PX → Fr → Prop) → Prop) (m : Fr → Res PV) : Prop := ∀ ρ Q E, run ρ Q E → (m ρ).sat Q E
theorem wP_ok {e : IE} {run : Fr → (PV → Fr → Prop) → (PX → Fr → Prop) → Prop} {m : Fr → Res PV} (hr : RunOk run m) {ρ : Fr} {Q : OV → Fr → Prop} {E : PX → Fr → Prop} (h : wP e run ρ Q E) : (opnd e m ρ).sat Q E := by
  by_cases he : isL0 e = true
  · cases e with
    | loc i =>
      simp only [wP] at h
      cases e : ρ.at i with
      | none => rw [e] at h; exact h.elim
      | some p => rw [e] at h; exact o_loc e h
    | it i k =>
      simp only [wP] at h
      split at h
      · rename_i xs ex
        cases hb : Nat.blt k xs.length with
        | true => rw [hb] at h; exact o_it ex (Nat.le_of_ble_eq_true hb) h
        | false => rw [hb] at h; exact h.elim
      · exact h.elim
    | _ => cases he
  · have he : isL0 e = false := by simpa using he
    refine o_val he ?_
    have h' : run ρ (fun p ρ1 => wFrz p fun p' => Q (.vl p') ρ1) E := by
      cases e <;> first
        | exact h
        | cases he
    exact (hr _ _ _ h').mono fun p ρ1 q => ⟨_, rfl, wFrz_ok q⟩
theorem wG_ok {ln : Bool} {e : IE} {run : Fr → (PV → Fr → Prop) → (PX → Fr → Prop) → Prop} {m : Fr → Res PV} (hr : RunOk run m) {ρ : Fr} {Q : OV → Fr → Prop} {E : PX → Fr → Prop} (h : wG ln e run ρ Q E) : (opA ln e m ρ).sat Q E := by
  cases ln with
  | true => exact wP_ok hr h
  | false => exact sat_bind.mpr ((hr _ _ _ h).mono fun p ρ1 q => wFrz_ok (k := fun p' => Q (.vl p') ρ1) q)
theorem wTr_ok {p : PV} {Q : Bool → Prop} (h : wTr p Q) : ∃ k, truth p = some k ∧ Q k := by
  cases p <;> first
    | exact ⟨_, rfl, h⟩
    | exact h
theorem tr_end {o : OV} {ρ1 : Fr} {Q : Bool → Fr → Prop} (q : match rsv ρ1 o with
    | some p => wTr p fun k => Q k ρ1
    | none => False) : ∃ p k, rsv ρ1 o = some p ∧ truth p = some k ∧ Q k ρ1 := by
  cases e : rsv ρ1 o with
  | none => rw [e] at q; exact q.elim
  | some p =>
    rw [e] at q
    obtain ⟨k, e2, q⟩ := wTr_ok (Q := fun k => Q k ρ1) q
    exact ⟨p, k, rfl, e2, q⟩
theorem wT_op {c : Cf} {f : Op} {es : List IE} {run : Fr → (PV → Fr → Prop) → (PX → Fr → Prop) → Prop} {ρ : Fr} {Q : Bool → Fr → Prop} {E : PX → Fr → Prop} (hn : ¬ ∃ e, f = .not ∧ es = [e]) : wT c (.op f es) run ρ Q E = run ρ (fun p ρ1 => match p with
    | .bl k => Q k ρ1
    | _ => False) E := by
  cases f with
  | not =>
    cases es with
    | nil => first | (simp only [wT]; done) | (simp only [wT]; rfl)
    | cons e r =>
      cases r with
      | nil => exact absurd ⟨e, rfl, rfl⟩ hn
      | cons => first | (simp only [wT]; done) | (simp only [wT]; rfl)
  | _ => first | (simp only [wT]; done) | (simp only [wT]; rfl)
theorem evT_op2 {c : Cf} {f : Op} {es : List IE} {run : Fr → Res PV} {ρ : Fr} (hn : ¬ ∃ e, f = .not ∧ es = [e]) : evT c (.op f es) run ρ = asB (run ρ) := by
  cases f with
  | not =>
    cases es with
    | nil => simp only [evT]
    | cons e r =>
      cases r with
      | nil => exact absurd ⟨e, rfl, rfl⟩ hn
      | cons => simp only [evT]
  | _ => simp only [evT]
theorem comp_vloop {turn : PV → Fr → Res (Option PV)} {own : List Nat} {i n : Nat} (I : Nat → List PV → Fr → Prop) (hend : ∀ ys ρ, I n ys ρ → vwLen ρ i n = true) (step : ∀ j acc ρ, j < n → I j acc ρ → ∃ x, vwAt ρ i n j = some x ∧ (turn x ρ).sat (fun y ρ1 => match y with
    | some y => ∃ y', y.frz = y' ∧ acc.length < sizeLine ∧ I (j + 1) (acc ++ [y']) (wipeF ρ1 own)
    | none => I (j + 1) acc (wipeF ρ1 own)) NE) : ∀ (k : Nat) (acc : List PV) (ρ : Fr), k ≤ n → I (n - k) acc ρ → (compV turn own i n k ρ acc).sat (fun ys ρ => I n ys ρ) NE
  | 0, acc, ρ, hk, h => by
    unfold compV
    rw [Nat.sub_zero] at h
    rw [if_pos (hend _ _ h)]
    exact h
  | k + 1, acc, ρ, hk, h => by
    obtain ⟨x, e1, s⟩ := step (n - (k + 1)) acc ρ (by omega) h
    unfold compV
    rw [e1]
    dsimp only
    have e2 : n - (k + 1) + 1 = n - k := by omega
    rw [e2] at s
    cases e : turn x ρ with
    | bad => rw [e] at s; exact s
    | ex x ρ1 => rw [e] at s; exact s.elim
    | ok y ρ1 =>
      rw [e] at s
      cases y with
      | none => exact comp_vloop I hend step k acc _ (by omega) s
      | some y =>
        obtain ⟨y', f, h1, h2⟩ := s
        subst f
        dsimp only
        rw [if_pos h1]
        exact comp_vloop I hend step k _ _ (by omega) h2
theorem for_vloop {turn : PV → Fr → Res Fl} {i n : Nat} {Q : Fl → Fr → Prop} {E : PX → Fr → Prop} (I : Nat → Fr → Prop) (hend : ∀ ρ, I n ρ → vwLen ρ i n = true ∧ Q .nx ρ) (step : ∀ j ρ, j < n → I j ρ → ∃ x, vwAt ρ i n j = some x ∧ (turn x ρ).sat (fun f ρ1 => match f with
    | .nx => I (j + 1) ρ1
    | .ct => I (j + 1) ρ1
    | .bk => Q .nx ρ1
    | .rt p => Q (.rt p) ρ1) E) : ∀ (k : Nat) (ρ : Fr), k ≤ n → I (n - k) ρ → (forV turn i n k ρ).sat Q E
  | 0, ρ, hk, h => by
    unfold forV
    rw [Nat.sub_zero] at h
    rw [if_pos (hend _ h).1]
    exact (hend _ h).2
  | k + 1, ρ, hk, h => by
    obtain ⟨x, e1, s⟩ := step (n - (k + 1)) ρ (by omega) h
    unfold forV
    rw [e1]
    dsimp only
    have e2 : n - (k + 1) + 1 = n - k := by omega
    rw [e2] at s
    cases e : turn x ρ with
    | bad => rw [e] at s; exact s
    | ex x ρ1 => rw [e] at s; exact s
    | ok f ρ1 =>
      rw [e] at s
      cases f with
      | nx => exact for_vloop I hend step k ρ1 (by omega) s
      | ct => exact for_vloop I hend step k ρ1 (by omega) s
      | bk => exact s
      | rt p => exact s
theorem zC_ok {f : Str → List PV → CR} {k : Str} {as : List PV} {Q : PV → Fr → Prop} {E : PX → Fr → Prop} : zC f k as Q E ↔ (f k as).sat Q E := by
  unfold zC
  exact Iff.rfl
theorem give_nn (as ρ : Fr) : give [none, none] as ρ = ρ := by
  cases as with
  | nil => rfl
  | cons a as => cases as <;> rfl
theorem own_bl {c : Cf} {k : Str} {p q : PV} {ρ : Fr} {Q : PV → Fr → Prop} {E : PX → Fr → Prop} (h : zC c.call k [p, q] (fun r _ => wBl r fun b => Q (.bl b) ρ) NE) : (asB1 (callR c k [(p, none), (q, none)] ρ)).sat Q E := by
  have h := zC_ok.mp h
  unfold callR
  change (asB1 (match c.call k [p, q] with
    | .ok r as' => .ok r (give [none, none] as' ρ)
    | .ex x as' => .ex x (give [none, none] as' ρ)
    | .bad => .bad)).sat Q E
  cases e : c.call k [p, q] with
  | bad => rw [e] at h; exact h.elim
  | ex x as' => rw [e] at h; exact h.elim
  | ok r as' =>
    rw [e] at h
    have h : wBl r fun b => Q (.bl b) ρ := h
    dsimp only
    rw [give_nn]
    cases r <;> first
      | exact h
      | exact h.elim
theorem own_any {c : Cf} {k : Str} {p q : PV} {ρ : Fr} {Q : PV → Fr → Prop} {E : PX → Fr → Prop} (h : zC c.call k [p, q] (fun r _ => Q r ρ) NE) : (ownR (callR c k [(p, none), (q, none)] ρ)).sat Q E := by
  have h := zC_ok.mp h
  unfold callR
  change (ownR (match c.call k [p, q] with
    | .ok r as' => .ok r (give [none, none] as' ρ)
    | .ex x as' => .ex x (give [none, none] as' ρ)
    | .bad => .bad)).sat Q E
  cases e : c.call k [p, q] with
  | bad => rw [e] at h; exact h.elim
  | ex x as' => rw [e] at h; exact h.elim
  | ok r as' =>
    rw [e] at h
    dsimp only
    rw [give_nn]
    exact h
mutual
theorem wE_ok (c : Cf) : ∀ (e : IE), RunOk (wE c e) (evE c e)
  | .cst p, ρ, Q, E, h => s_cst (by simpa only [wE] using h)
  | .loc i, ρ, Q, E, h => by
    simp only [wE] at h
    cases e : ρ.at i with
    | none => rw [e] at h; exact h.elim
    | some p => rw [e] at h; exact s_loc e rfl (wFrz_ok (k := fun p' => Q p' (ρ.set i (some p'))) h)
  | .mov i, ρ, Q, E, h => by
    simp only [wE] at h
    cases e : ρ.at i with
    | none => rw [e] at h; exact h.elim
    | some p => rw [e] at h; exact s_mov e h
  | .op f es, ρ, Q, E, h => by
    simp only [wE] at h
    refine s_op ((wO_ok c es _ _ _ h).mono fun os ρ1 q => ?_)
    cases e : rsvL ρ1 os with
    | none => rw [e] at q; exact q.elim
    | some ps =>
      rw [e] at q
      obtain ⟨r, e2, q⟩ := wOp_ok q
      exact ⟨ps, r, rfl, e2, q⟩
  | .chain f g x y z, ρ, Q, E, h => by
    simp only [wE] at h
    refine s_chain ((wP_ok (wE_ok c x) h).mono fun o1 ρ1 h => (wP_ok (wE_ok c y) h).mono fun o2 ρ2 q => ?_)
    cases e1 : rsv ρ2 o1 with
    | none => rw [e1] at q; exact q.elim
    | some p =>
      cases e2 : rsv ρ2 o2 with
      | none => rw [e1, e2] at q; exact q.elim
      | some p2 =>
        rw [e1, e2] at q
        obtain ⟨r, e3, q⟩ := wOp_ok q
        cases e4 : cmpN f p p2 with
        | none => simp [opN, e4] at e3
        | some k =>
          simp [opN, e4] at e3
          subst e3
          refine ⟨p, p2, k, rfl, rfl, e4, q.1, fun hk => (wP_ok (wE_ok c z) (q.2 hk)).mono fun o3 ρ3 q => ?_⟩
          cases f1 : rsv ρ3 o2 with
          | none => rw [f1] at q; exact q.elim
          | some q' =>
            cases f2 : rsv ρ3 o3 with
            | none => rw [f1, f2] at q; exact q.elim
            | some r' =>
              rw [f1, f2] at q
              obtain ⟨v, f3, q⟩ := wOp_ok q
              cases f4 : cmpN g q' r' with
              | none => simp [opN, f4] at f3
              | some k' =>
                simp [opN, f4] at f3
                subst f3
                exact ⟨q', r', k', rfl, rfl, f4, q⟩
  | .dcmp f t es u ds, ρ, Q, E, h => by
    simp only [wE] at h
    refine s_dcmp ((wO_ok c es _ _ _ h).mono fun x ρ1 ⟨o1, h⟩ => ⟨o1, (wO_ok c ds _ _ _ h).mono fun y ρ2 ⟨o2, h⟩ => ⟨o2, ?_⟩⟩)
    split at h
    · rename_i p q e1 e2
      obtain ⟨r, e3, h⟩ := wOp_ok h
      cases e4 : cmpN f p q with
      | none => simp [opN, e4] at e3
      | some k =>
        simp [opN, e4] at e3
        subst e3
        exact ⟨p, q, k, e1, e2, e4, h⟩
    · exact h.elim
  | .slc x a b, ρ, Q, E, h => by
    simp only [wE] at h
    refine s_slc ((wP_ok (wE_ok c x) h).mono fun o ρ1 h => (wP_ok (wE_ok c a) h).mono fun y ρ2 q => ?_)
    split at q
    · rename_i i e1
      refine ⟨i, e1, (wP_ok (wE_ok c b) q).mono fun z ρ3 q => ?_⟩
      split at q
      · rename_i p j e2 e3
        obtain ⟨r, e4, q⟩ := q
        exact ⟨p, j, r, e2, e3, e4, q⟩
      · exact q.elim
    · exact q.elim
  | .and a b, ρ, Q, E, h => by
    simp only [wE] at h
    refine s_and ((wE_ok c a _ _ _ h).mono fun p ρ1 q => ?_)
    split at q
    · exact ⟨_, rfl, fun hk => wE_ok c b _ _ _ (q.1 hk), q.2⟩
    · exact q.elim
  | .or a b, ρ, Q, E, h => by
    simp only [wE] at h
    refine s_or ((wE_ok c a _ _ _ h).mono fun p ρ1 q => ?_)
    split at q
    · exact ⟨_, rfl, q.1, fun hk => wE_ok c b _ _ _ (q.2 hk)⟩
    · exact q.elim
  | .ite t a b, ρ, Q, E, h => by
    simp only [wE] at h
    exact s_ite ((wT_ok c t _ _ _ h).mono fun k ρ1 q => ⟨fun hk => wE_ok c a _ _ _ (q.1 hk), fun hk => wE_ok c b _ _ _ (q.2 hk)⟩)
  | .lst es, ρ, Q, E, h => by
    simp only [wE] at h
    exact s_lst ((wL_ok c es _ _ _ h).mono fun ps ρ1 q => ⟨_, rfl, q.1, wFrzL_ok (k := fun qs => Q (.lst true qs) ρ1) q.2⟩)
  | .tup es, ρ, Q, E, h => by
    simp only [wE] at h
    exact s_tup ((wL_ok c es _ _ _ h).mono fun ps ρ1 q => ⟨_, rfl, q.1, wFrzL_ok (k := fun qs => Q (.tup qs) ρ1) q.2⟩)
  | .call k ls es, ρ, Q, E, h => by
    simp only [wE] at h
    exact s_call ((wA_ok c _ es _ _ _ h).mono fun os ρ0 q => by
      obtain ⟨as, ρ1, e, q⟩ := wTake_ok q
      exact ⟨as, ρ1, e, zC_ok.mp q⟩)
  | .comp elt tg src ifs own, ρ, Q, E, h => by
    simp only [wE] at h
    have h2 : (evSrc c src ρ).sat (fun xs ρ1 => zK tg own (fun ρ Q => wI c ifs ρ Q NE) (fun ρ Q => wE c elt ρ Q NE) xs ρ1 Q) E := wSrc_ok c src _ _ _ h
    cases e : evSrc c src ρ with
    | bad => rw [e] at h2; exact h2.elim
    | ex x ρ1 =>
      rw [e] at h2
      simp only [evE, e]
      exact h2
    | ok xs ρ1 =>
      rw [e] at h2
      have h3 : zK tg own (fun ρ Q => wI c ifs ρ Q NE) (fun ρ Q => wE c elt ρ Q NE) xs ρ1 Q := h2
      unfold zK at h3
      rcases h3 with ⟨I, h0, hk, step⟩ | h3
      · refine s_comp I (by rw [e]; exact ⟨h0, hk⟩) fun x r acc ρ hI => ?_
        obtain ⟨ρ2, e2, q⟩ := step x r acc ρ hI
        exact ⟨ρ2, e2, (wI_ok c ifs _ _ _ q).mono fun k ρ3 q => ⟨fun hk => wE_ok c elt _ _ _ (q.1 hk), q.2⟩⟩
      · refine s_comp (fun rest acc ρ => zV tg own (fun ρ Q => wI c ifs ρ Q NE) (fun ρ Q => wE c elt ρ Q NE) rest acc ρ fun ys ρ2 => Q (.lst true ys) (backB (frzAt ρ1 own) ρ2 own)) (by rw [e]; exact ⟨h3, fun ys ρ2 z => z⟩) fun x r acc ρ hI => ?_
        obtain ⟨ρ2, e2, q⟩ := hI
        exact ⟨ρ2, e2, (wI_ok c ifs _ _ _ q).mono fun k ρ3 q => ⟨fun hk => (wE_ok c elt _ _ _ (q.1 hk)).mono fun y ρ4 q => ⟨_, rfl, wFrz_ok (k := fun y' => acc.length < sizeLine ∧ zV tg own (fun ρ Q => wI c ifs ρ Q NE) (fun ρ Q => wE c elt ρ Q NE) r (acc ++ [y']) (wipeF ρ4 own) fun ys ρ2 => Q (.lst true ys) (backB (frzAt ρ1 own) ρ2 own)) q⟩, q.2⟩⟩
  | .compv elt tg i ifs own, ρ, Q, E, h => by
    simp only [wE] at h
    simp only [evE]
    cases en : lenAt ρ i with
    | none => rw [en] at h; exact h.elim
    | some n =>
      rw [en] at h
      have h2 : zKv tg own i (fun ρ Q => wI c ifs ρ Q NE) (fun ρ Q => wE c elt ρ Q NE) n ρ Q := h
      unfold zKv at h2
      obtain ⟨eo, I, h0, hk, step⟩ := h2
      rw [eo]
      dsimp only
      have L := comp_vloop (turn := fun x ρ => match asg tg x ρ with
        | some ρ2 => (evIfs c ifs ρ2).bind fun k ρ3 => if k then (evE c elt ρ3).bind fun y ρ4 => .ok (some y) ρ4 else .ok none ρ3
        | none => .bad) (own := own) I (fun ys ρ hI => (hk ys ρ hI).1) (fun j acc ρ hj hI => by
          obtain ⟨x, ρ2, e1, e2, q⟩ := step j acc ρ hj hI
          refine ⟨x, e1, ?_⟩
          rw [e2]
          refine sat_bind.mpr ((wI_ok c ifs _ _ _ q).mono fun k ρ3 q => ?_)
          cases k with
          | true =>
            rw [if_pos rfl]
            exact sat_bind.mpr (wE_ok c elt _ _ _ (q.1 rfl))
          | false =>
            rw [if_neg Bool.false_ne_true]
            exact q.2 rfl) n [] _ (Nat.le_refl _) (by rw [Nat.sub_self]; exact h0)
      generalize compV _ own i n n _ [] = r at L
      cases r with
      | ok ys ρ2 =>
        show Q _ (backAt _ _ _)
        rw [back_eq]
        exact (hk ys ρ2 L).2
      | ex x ρ2 => exact L.elim
      | bad => exact L.elim
  | .tupo es, ρ, Q, E, h => by
    simp only [wE] at h
    simp only [evE]
    refine sat_bind.mpr ((wL_ok c es _ _ _ h).mono fun ps ρ1 q => ?_)
    rw [if_pos q.1]
    exact q.2
  | .it i k, ρ, Q, E, h => by simp only [wE] at h
  | .xf f, ρ, Q, E, h => by
    simp only [wE] at h
    simp only [evE]
    split at h
    · rename_i x ex
      rw [ex]
      dsimp only [Option.bind]
      split at h
      · rename_i p ep
        try rw [ep]
        exact h
      · exact h.elim
    · exact h.elim
  | .xi t, ρ, Q, E, h => by
    simp only [wE] at h
    simp only [evE]
    split at h
    · rename_i x ex
      rw [ex]
      dsimp only [Option.bind]
      split at h
      · rename_i p ep
        try rw [ep]
        exact h
      · exact h.elim
    · exact h.elim
  | .cal h st ls es ss rs, ρ, Q, E, hh => by
    simp only [wE] at hh
    simp only [evE]
    refine sat_bind.mpr ((wHd_ok c h _ _ _ hh).mono fun hd ρ0 q => sat_bind.mpr ((wX_ok c st ls es _ _ _ q).mono fun os ρ1 q => ?_))
    cases e1 : bindO st ss rs os with
    | none => rw [e1] at q; exact q.elim
    | some os' =>
      rw [e1] at q
      cases hd with
      | key k pre =>
        dsimp only at q ⊢
        obtain ⟨as, ρ2, e, q⟩ := wTake_ok q
        rw [e]
        dsimp only
        have q := zC_ok.mp q
        unfold callR
        cases e2 : c.call k (as.map (·.1)) with
        | ok r as' => rw [e2] at q; exact q
        | ex x as' => rw [e2] at q; exact q
        | bad => rw [e2] at q; exact q.elim
      | mk k K =>
        dsimp only at q ⊢
        obtain ⟨as, ρ2, e, q⟩ := wTake_ok q
        rw [e]
        dsimp only
        have q := zC_ok.mp q
        unfold callNew
        cases e2 : c.call k (.obj true K [] :: as.map (·.1)) with
        | ok r as' =>
          rw [e2] at q
          have q : wMade r as' fun p as2 => Q p (give (as.map (·.2)) as2 ρ2) := q
          unfold wMade at q
          split at q
          · exact q
          · exact q.elim
        | ex x as' =>
          rw [e2] at q
          cases as' with
          | nil => exact q.elim
          | cons a as2 => exact q
        | bad => rw [e2] at q; exact q.elim
  | .fld e f, ρ, Q, E, h => by
    simp only [wE] at h
    simp only [evE]
    refine sat_bind.mpr ((wP_ok (wE_ok c e) h).mono fun o ρ1 q => ?_)
    cases e1 : rsv ρ1 o with
    | none => rw [e1] at q; exact q.elim
    | some p =>
      rw [e1] at q
      obtain ⟨r, e2, q⟩ := wFld_ok (k := fun q => Q q ρ1) q
      dsimp only [Option.bind]
      rw [e2]
      exact q
  | .dsp t st es, ρ, Q, E, h => by
    simp only [wE] at h
    simp only [evE]
    refine sat_bind.mpr ((wL_ok c es _ _ _ h).mono fun ps ρ1 q => ?_)
    have q := wFrzL_ok q
    cases e1 : dspI st (PV.frzL ps) with
    | none => rw [e1] at q; exact q.elim
    | some qs =>
      rw [e1] at q
      dsimp only at q ⊢
      rw [if_pos q.1]
      exact q.2
  | .dun m a b, ρ, Q, E, h => by
    simp only [wE] at h
    simp only [evE]
    refine sat_bind.mpr ((wE_ok c a _ _ _ h).mono fun p ρ1 h => sat_bind.mpr ((wE_ok c b _ _ _ h).mono fun q ρ2 h => ?_))
    have h := wFrz_ok (wFrz_ok h)
    generalize methOf p.frz m = hd at h ⊢
    split at h
    · exact own_any h
    · exact h.elim
  | .has a b, ρ, Q, E, h => by
    simp only [wE] at h
    simp only [evE]
    refine sat_bind.mpr ((wE_ok c a _ _ _ h).mono fun p ρ1 h => sat_bind.mpr ((wE_ok c b _ _ _ h).mono fun q ρ2 h => ?_))
    have h := wFrz_ok (wFrz_ok h)
    generalize methOf q.frz "__contains__" = hd at h ⊢
    generalize isObj q.frz = ob at h ⊢
    split at h
    · exact own_bl h
    · exact h.elim
  | .lidx a b, ρ, Q, E, h => by
    simp only [wE] at h
    simp only [evE]
    refine sat_bind.mpr ((wE_ok c a _ _ _ h).mono fun p ρ1 h => ?_)
    have h := wFrz_ok h
    cases e1 : lstOf p.frz with
    | none => rw [e1] at h; exact h.elim
    | some xs =>
      rw [e1] at h
      refine sat_bind.mpr ((wE_ok c b _ _ _ h).mono fun q ρ2 h => ?_)
      obtain ⟨r, e2, h⟩ := wFrz_ok (k := fun q' => ∃ r, indexP p.frz q' = some r ∧ Q r ρ2) h
      rw [e2]
      exact h
  | .oeq ng a b, ρ, Q, E, h => by
    simp only [wE] at h
    simp only [evE]
    refine sat_bind.mpr ((wE_ok c a _ _ _ h).mono fun p ρ1 h => sat_bind.mpr ((wE_ok c b _ _ _ h).mono fun q ρ2 h => ?_))
    have h := wFrz_ok (wFrz_ok h)
    rw [wEq_ok h.1]
    have h := h.2
    generalize methOf p.frz "__eq__" = hd at h ⊢
    split at h
    · exact own_bl h
    · exact h.elim
  | .dsel ks es e, ρ, Q, E, h => by
    simp only [wE] at h
    simp only [evE]
    refine sat_bind.mpr ((wL_ok c es _ _ _ h).mono fun ps ρ1 h => sat_bind.mpr ((wE_ok c e _ _ _ h).mono fun q ρ2 h => ?_))
    obtain ⟨r, e2, h⟩ := wFrzL_ok h
    rw [e2]
    exact h
  | .hx, ρ, Q, E, h => by
    simp only [wE] at h
    simp only [evE]
    split at h
    · rename_i x ex
      try rw [ex]
      exact h
    · exact h.elim
  | .comp2 _ _ _ _ _ _ _, ρ, Q, E, h => by simp only [wE] at h
termination_by e => (sizeOf e, 0)
theorem wHd_ok (c : Cf) : ∀ (h : CH) (ρ : Fr) (Q : HR → Fr → Prop) (E : PX → Fr → Prop), wHd c h ρ Q E → (evHd c h ρ).sat Q E
  | .fn k, ρ, Q, E, h => by
    simp only [wHd] at h
    simp only [evHd]
    exact h
  | .new K, ρ, Q, E, h => by
    simp only [wHd] at h
    simp only [evHd]
    cases e : initOf K with
    | none => rw [e] at h; exact h.elim
    | some k => rw [e] at h; exact h
  | .newv i K, ρ, Q, E, h => by
    simp only [wHd] at h
    simp only [evHd]
    split at h
    · rename_i K' e1
      obtain ⟨h1, h2⟩ := h
      subst h1
      try rw [e1]
      try dsimp only
      rw [decide_eq_true rfl]
      cases e : initOf K with
      | none => rw [e] at h2; exact h2.elim
      | some k => rw [e] at h2; exact h2
    · exact h.elim
  | .sup k, ρ, Q, E, h => by
    simp only [wHd] at h
    simp only [evHd]
    exact h
  | .mth e m cs, ρ, Q, E, h => by
    simp only [wHd] at h
    simp only [evHd]
    refine sat_bind.mpr ((wE_ok c e _ _ _ h).mono fun p ρ1 h => ?_)
    cases e1 : fitC cs p with
    | false => rw [e1] at h; exact h.elim
    | true =>
      rw [e1] at h
      have h := wFrz_ok h
      cases e2 : methOf p.frz m with
      | none => rw [e2] at h; exact h.elim
      | some hd => rw [e2] at h; exact h
  | .ocl e, ρ, Q, E, h => by
    simp only [wHd] at h
    simp only [evHd]
    refine sat_bind.mpr ((wE_ok c e _ _ _ h).mono fun p ρ1 h => ?_)
    have h := wFrz_ok h
    cases e2 : methOf p.frz "__call__" with
    | none => rw [e2] at h; exact h.elim
    | some hd => rw [e2] at h; exact h
termination_by h => (sizeOf h, 0)
theorem wT_ok (c : Cf) : ∀ (e : IE) (ρ : Fr) (Q : Bool → Fr → Prop) (E : PX → Fr → Prop), wT c e (wE c e) ρ Q E → (evT c e (evE c e) ρ).sat Q E
  | .and a b, ρ, Q, E, h => by
    simp only [wT] at h
    exact t_and ((wT_ok c a _ _ _ h).mono fun k ρ1 q => ⟨fun hk => wT_ok c b _ _ _ (q.1 hk), q.2⟩)
  | .or a b, ρ, Q, E, h => by
    simp only [wT] at h
    exact t_or ((wT_ok c a _ _ _ h).mono fun k ρ1 q => ⟨q.1, fun hk => wT_ok c b _ _ _ (q.2 hk)⟩)
  | .op f es, ρ, Q, E, h => by
    by_cases hn : ∃ e, f = .not ∧ es = [e]
    · obtain ⟨e, rfl, rfl⟩ := hn
      simp only [wT] at h
      exact t_not (wT_ok c e _ _ _ h)
    · rw [wT_op hn] at h
      have h2 := wE_ok c (.op f es) _ _ _ h
      have et := evT_op2 (c := c) (run := evE c (.op f es)) (ρ := ρ) hn
      rw [et]
      refine sat_bind.mpr (h2.mono fun p ρ1 q => ?_)
      split at q
      · exact q
      · exact q.elim
  | .chain f g x y z, ρ, Q, E, h => by
    simp only [wT] at h
    refine t_chain ((wE_ok c (.chain f g x y z) _ _ _ h).mono fun p ρ1 q => ?_)
    split at q
    · exact ⟨_, rfl, q⟩
    · exact q.elim
  | .dcmp f t es u ds, ρ, Q, E, h => by
    simp only [wT] at h
    refine t_dcmp ((wE_ok c (.dcmp f t es u ds) _ _ _ h).mono fun p ρ1 q => ?_)
    split at q
    · exact ⟨_, rfl, q⟩
    · exact q.elim
  | .oeq ng a b, ρ, Q, E, h => by
    simp only [wT] at h
    exact t_oeq ((wE_ok c (.oeq ng a b) _ _ _ h).mono fun p ρ1 q => by
      cases p <;> first
        | exact ⟨_, rfl, q⟩
        | exact q.elim)
  | .has a b, ρ, Q, E, h => by
    simp only [wT] at h
    exact t_has ((wE_ok c (.has a b) _ _ _ h).mono fun p ρ1 q => by
      cases p <;> first
        | exact ⟨_, rfl, q⟩
        | exact q.elim)
  | .cst p, ρ, Q, E, h => by
    simp only [wT] at h
    exact t_val rfl ((wP_ok (wE_ok c _) h).mono fun o ρ1 q => tr_end q)
  | .loc i, ρ, Q, E, h => by
    simp only [wT] at h
    exact t_val rfl ((wP_ok (wE_ok c _) h).mono fun o ρ1 q => tr_end q)
  | .mov i, ρ, Q, E, h => by
    simp only [wT] at h
    exact t_val rfl ((wP_ok (wE_ok c _) h).mono fun o ρ1 q => tr_end q)
  | .slc x a b, ρ, Q, E, h => by
    simp only [wT] at h
    exact t_val rfl ((wP_ok (wE_ok c _) h).mono fun o ρ1 q => tr_end q)
  | .ite t a b, ρ, Q, E, h => by
    simp only [wT] at h
    exact t_val rfl ((wP_ok (wE_ok c _) h).mono fun o ρ1 q => tr_end q)
  | .lst es, ρ, Q, E, h => by
    simp only [wT] at h
    exact t_val rfl ((wP_ok (wE_ok c _) h).mono fun o ρ1 q => tr_end q)
  | .tup es, ρ, Q, E, h => by
    simp only [wT] at h
    exact t_val rfl ((wP_ok (wE_ok c _) h).mono fun o ρ1 q => tr_end q)
  | .call k ls es, ρ, Q, E, h => by
    simp only [wT] at h
    exact t_val rfl ((wP_ok (wE_ok c _) h).mono fun o ρ1 q => tr_end q)
  | .comp elt tg src ifs own, ρ, Q, E, h => by
    simp only [wT] at h
    exact t_val rfl ((wP_ok (wE_ok c _) h).mono fun o ρ1 q => tr_end q)
  | .compv elt tg i ifs own, ρ, Q, E, h => by
    simp only [wT] at h
    exact t_val rfl ((wP_ok (wE_ok c _) h).mono fun o ρ1 q => tr_end q)
  | .xf f, ρ, Q, E, h => by
    simp only [wT] at h
    exact t_val rfl ((wP_ok (wE_ok c _) h).mono fun o ρ1 q => tr_end q)
  | .xi t, ρ, Q, E, h => by
    simp only [wT] at h
    exact t_val rfl ((wP_ok (wE_ok c _) h).mono fun o ρ1 q => tr_end q)
  | .tupo es, ρ, Q, E, h => by
    simp only [wT] at h
    exact t_val rfl ((wP_ok (wE_ok c _) h).mono fun o ρ1 q => tr_end q)
  | .it i k, ρ, Q, E, h => by
    simp only [wT] at h
    exact t_val rfl ((wP_ok (wE_ok c _) h).mono fun o ρ1 q => tr_end q)
  | .cal h0 st ls es ss rs, ρ, Q, E, h => by
    simp only [wT] at h
    exact t_val rfl ((wP_ok (wE_ok c _) h).mono fun o ρ1 q => tr_end q)
  | .fld e f, ρ, Q, E, h => by
    simp only [wT] at h
    exact t_val rfl ((wP_ok (wE_ok c _) h).mono fun o ρ1 q => tr_end q)
  | .dsp t st es, ρ, Q, E, h => by
    simp only [wT] at h
    exact t_val rfl ((wP_ok (wE_ok c _) h).mono fun o ρ1 q => tr_end q)
  | .dun m a b, ρ, Q, E, h => by
    simp only [wT] at h
    exact t_val rfl ((wP_ok (wE_ok c _) h).mono fun o ρ1 q => tr_end q)
  | .lidx a b, ρ, Q, E, h => by
    simp only [wT] at h
    exact t_val rfl ((wP_ok (wE_ok c _) h).mono fun o ρ1 q => tr_end q)
  | .dsel ks es e, ρ, Q, E, h => by
    simp only [wT] at h
    exact t_val rfl ((wP_ok (wE_ok c _) h).mono fun o ρ1 q => tr_end q)
  | .hx, ρ, Q, E, h => by
    simp only [wT] at h
    exact t_val rfl ((wP_ok (wE_ok c _) h).mono fun o ρ1 q => tr_end q)
  | .comp2 a1 a2 a3 a4 a5 a6 a7, ρ, Q, E, h => by
    simp only [wT] at h
    exact t_val rfl ((wP_ok (wE_ok c _) h).mono fun o ρ1 q => tr_end q)
termination_by e => (sizeOf e, 1)
theorem wI_ok (c : Cf) : ∀ (es : List IE) (ρ : Fr) (Q : Bool → Fr → Prop) (E : PX → Fr → Prop), wI c es ρ Q E → (evIfs c es ρ).sat Q E
  | [], ρ, Q, E, h => i_nil (by simpa only [wI] using h)
  | [e], ρ, Q, E, h => i_one (wT_ok c e _ _ _ (by simpa only [wI] using h))
  | _ :: _ :: _, ρ, Q, E, h => by simp only [wI] at h
termination_by es => (sizeOf es, 0)
theorem wO_ok (c : Cf) : ∀ (es : List IE) (ρ : Fr) (Q : List OV → Fr → Prop) (E : PX → Fr → Prop), wO c es ρ Q E → (evO c es ρ).sat Q E
  | [], ρ, Q, E, h => os_nil (by simpa only [wO] using h)
  | e :: es, ρ, Q, E, h => by
    simp only [wO] at h
    exact os_cons ((wP_ok (wE_ok c e) h).mono fun o ρ1 q => wO_ok c es _ _ _ q)
termination_by es => (sizeOf es, 0)
theorem wL_ok (c : Cf) : ∀ (es : List IE) (ρ : Fr) (Q : List PV → Fr → Prop) (E : PX → Fr → Prop), wL c es ρ Q E → (evL c es ρ).sat Q E
  | [], ρ, Q, E, h => l_nil (by simpa only [wL] using h)
  | e :: es, ρ, Q, E, h => by
    simp only [wL] at h
    exact l_cons ((wE_ok c e _ _ _ h).mono fun o ρ1 q => wL_ok c es _ _ _ q)
termination_by es => (sizeOf es, 0)
theorem wA_ok (c : Cf) : ∀ (ls : List Bool) (es : List IE) (ρ : Fr) (Q : List OV → Fr → Prop) (E : PX → Fr → Prop), wA c ls es ρ Q E → (evA c ls es ρ).sat Q E
  | ls, [], ρ, Q, E, h => a_nil (by simpa only [wA] using h)
  | ls, e :: es, ρ, Q, E, h => by
    simp only [wA] at h
    exact a_cons ((wG_ok (wE_ok c e) h).mono fun o ρ1 q => wA_ok c _ es _ _ _ q)
termination_by _ es => (sizeOf es, 0)
theorem wX_ok (c : Cf) : ∀ (st ls : List Bool) (es : List IE) (ρ : Fr) (Q : List OV → Fr → Prop) (E : PX → Fr → Prop), wX c st ls es ρ Q E → (evX c st ls es ρ).sat Q E
  | st, ls, [], ρ, Q, E, h => by
    simp only [wX] at h
    simp only [evX]
    exact h
  | st, ls, e :: es, ρ, Q, E, h => by
    simp only [wX] at h
    simp only [evX]
    cases hs : st.headD false with
    | true =>
      rw [hs] at h
      refine sat_bind.mpr (sat_bind.mpr ((wE_ok c e _ _ _ h).mono fun p ρ1 q => ?_))
      have q := wFrz_ok q
      cases e1 : seqOf p.frz with
      | none => rw [e1] at q; exact q.elim
      | some xs =>
        rw [e1] at q
        exact sat_bind.mpr (wX_ok c _ _ es _ _ _ q)
    | false =>
      rw [hs] at h
      exact sat_bind.mpr ((wG_ok (wE_ok c e) h).mono fun o ρ1 q => sat_bind.mpr (wX_ok c _ _ es _ _ _ q))
termination_by _ _ es => (sizeOf es, 0)
theorem wSrc_ok (c : Cf) : ∀ (s : ISrc) (ρ : Fr) (Q : List PV → Fr → Prop) (E : PX → Fr → Prop), wSrc c s ρ Q E → (evSrc c s ρ).sat Q E
  | .it e, ρ, Q, E, h => by
    simp only [wSrc] at h
    refine w_it ((wE_ok c e _ _ _ h).mono fun p ρ1 q => ?_)
    obtain ⟨xs, e1, q⟩ := wFrz_ok (k := fun p' => ∃ xs, srcOf p' = some xs ∧ Q xs ρ1) q
    exact ⟨_, xs, rfl, e1, q⟩
  | .rng es, ρ, Q, E, h => by
    simp only [wSrc] at h
    refine w_rng ((wO_ok c es _ _ _ h).mono fun os ρ1 q => ?_)
    split at q
    · rename_i ps e1
      obtain ⟨xs, e2, q⟩ := wRng_ok q
      exact ⟨ps, xs, e1, e2, q⟩
    · exact q.elim
  | .enm e, ρ, Q, E, h => by
    simp only [wSrc] at h
    refine w_enm ((wE_ok c e _ _ _ h).mono fun p ρ1 q => ?_)
    obtain ⟨xs, e1, q⟩ := wFrz_ok (k := fun p' => ∃ xs, enmP [p'] = some xs ∧ Q xs ρ1) q
    exact ⟨_, xs, rfl, e1, q⟩
  | .zp a b, ρ, Q, E, h => by
    simp only [wSrc] at h
    simp only [evSrc]
    refine sat_bind.mpr (g_val (b := false) rfl ((wE_ok c a _ _ _ h).mono fun p ρ1 h => ⟨_, rfl, sat_bind.mpr (g_val (b := false) rfl ((wE_ok c b _ _ _ h).mono fun q ρ2 ⟨xs, e, k⟩ => ⟨_, rfl, ?_⟩))⟩))
    dsimp only
    rw [e]
    exact k
termination_by s => (sizeOf s, 0)
end
end Y
end
section
set_option Elab.async false
set_option linter.all false
set_option maxRecDepth 100000
set_option maxHeartbeats 4000000
set_option autoImplicit false
/-! V3: statements, calls. -/
namespace Y
open PySem
mutual
theorem wS_ok (c : Cf) : ∀ (s : IS) (ρ : Fr) (Q : Fl → Fr → Prop) (E : PX → Fr → Prop), wS c s ρ Q E → (evS c s ρ).sat Q E
  | .set i e, ρ, Q, E, h => by
    simp only [wS] at h
    refine k_set ((wE_ok c e _ _ _ h).mono fun p ρ1 q => ?_)
    cases hb : Nat.blt i ρ1.length with
    | true => rw [hb] at q; exact ⟨Nat.le_of_ble_eq_true hb, q⟩
    | false => rw [hb] at q; exact q.elim
  | .asg tg e, ρ, Q, E, h => by
    simp only [wS] at h
    refine k_asg ((wE_ok c e _ _ _ h).mono fun p ρ1 q => ?_)
    obtain ⟨ρ2, e1, q⟩ := wFrz_ok (k := fun p' => ∃ ρ2, asg tg p' ρ1 = some ρ2 ∧ Q .nx ρ2) q
    exact ⟨_, ρ2, rfl, e1, q⟩
  | .par is es, ρ, Q, E, h => by
    simp only [wS] at h
    simp only [evS]
    refine sat_bind.mpr ((wL_ok c es _ _ _ h).mono fun ps ρ1 ⟨ρ2, e, q⟩ => ?_)
    rw [e]
    exact q
  | .aug i o e, ρ, Q, E, h => by
    simp only [wS] at h
    cases e0 : ρ.at i with
    | none => rw [e0] at h; exact h.elim
    | some q0 =>
      rw [e0] at h
      have h2 := wE_ok c e _ _ _ h
      simp only [evS, e0]
      refine sat_bind.mpr (h2.mono fun p ρ1 q => ?_)
      split at q
      · exact q
      · exact q
      · exact q.elim
  | .sub i ix e, ρ, Q, E, h => by
    simp only [wS] at h
    refine k_sub ((wE_ok c e _ _ _ h).mono fun p ρ1 q => ?_)
    have q := wFrz_ok (k := fun p' => match ρ1.at i with
      | some (.lst _ _) => wP ix (wE c ix) ρ1 (fun o ρ2 => match ρ2.at i, rsv ρ2 o with
        | some (.lst true xs), some (.int k) => ∃ j, L2.ixN xs.length k = some j ∧ Q .nx (ρ2.set i (some (.lst true (xs.set j p'))))
        | _, _ => False) E
      | _ => False) q
    refine ⟨_, rfl, ?_⟩
    split at q
    · rename_i e1
      refine ⟨by rw [e1]; rfl, (wP_ok (wE_ok c ix) q).mono fun o ρ2 q => ?_⟩
      split at q
      · rename_i xs k e2 e3
        obtain ⟨j, e4, q⟩ := q
        exact ⟨xs, k, j, e2, e3, e4, q⟩
      · exact q.elim
    · exact q.elim
  | .app i e, ρ, Q, E, h => by
    simp only [wS] at h
    split at h
    · rename_i e1
      refine k_app (by rw [e1]; rfl) ((wE_ok c e _ _ _ h).mono fun p ρ1 q => ?_)
      have q := wFrz_ok (k := fun p' => match ρ1.at i with
        | some (.lst true xs) => xs.length < sizeLine ∧ Q .nx (ρ1.set i (some (.lst true (xs ++ [p']))))
        | _ => False) q
      split at q
      · rename_i xs e2
        exact ⟨_, xs, rfl, e2, q.1, q.2⟩
      · exact q.elim
    · exact h.elim
  | .ext i e, ρ, Q, E, h => by
    simp only [wS] at h
    split at h
    · rename_i e1
      refine k_ext (by rw [e1]; rfl) ((wE_ok c e _ _ _ h).mono fun p ρ1 q => ?_)
      have q := wFrz_ok (k := fun p' => match ρ1.at i, p' with
        | some (.lst true xs), .lst _ ys => xs.length + ys.length ≤ sizeLine ∧ Q .nx (ρ1.set i (some (.lst true (xs ++ ys))))
        | _, _ => False) q
      split at q
      · rename_i xs o ys e2 e3
        exact ⟨xs, o, ys, e2, e3, q.1, q.2⟩
      · exact q.elim
    · exact h.elim
  | .exp e, ρ, Q, E, h => k_exp (wE_ok c e _ _ _ (by simpa only [wS] using h))
  | .ret e, ρ, Q, E, h => k_ret (wE_ok c e _ _ _ (by simpa only [wS] using h))
  | .retN, ρ, Q, E, h => k_retN (by simpa only [wS] using h)
  | .ife t a b, ρ, Q, E, h => by
    simp only [wS] at h
    exact k_ife ((wT_ok c t _ _ _ h).mono fun k ρ1 q => ⟨fun hk => wB_ok c a _ _ _ (q.1 hk), fun hk => wB_ok c b _ _ _ (q.2 hk)⟩)
  | .fors tg src body, ρ, Q, E, h => by
    simp only [wS] at h
    have h2 := wSrc_ok c src _ _ _ h
    cases e : evSrc c src ρ with
    | bad => rw [e] at h2; exact h2.elim
    | ex x ρ1 =>
      rw [e] at h2
      simp only [evS, e]
      exact h2
    | ok xs ρ1 =>
      rw [e] at h2
      have h3 : zF tg (fun ρ Q => wB c body ρ Q E) xs ρ1 Q E := h2
      unfold zF at h3
      rcases h3 with ⟨I, h0, hend, step⟩ | h3
      · refine k_for I (by rw [e]; exact h0) hend fun x r ρ hI => ?_
        obtain ⟨ρ2, e2, q⟩ := step x r ρ hI
        exact ⟨ρ2, e2, wB_ok c body _ _ _ q⟩
      · refine k_for (fun rest ρ => zU tg (fun ρ Q => wB c body ρ Q E) rest ρ Q) (by rw [e]; exact h3) (fun ρ z => z) fun x r ρ hI => ?_
        obtain ⟨ρ2, e2, q⟩ := hI
        exact ⟨ρ2, e2, wB_ok c body _ _ _ q⟩
  | .forv tg i body, ρ, Q, E, h => by
    simp only [wS] at h
    simp only [evS]
    cases en : lenAt ρ i with
    | none => rw [en] at h; exact h.elim
    | some n =>
      rw [en] at h
      have h2 : zFv tg i (fun ρ Q => wB c body ρ Q E) n ρ Q E := h
      unfold zFv at h2
      obtain ⟨I, h0, hk, step⟩ := h2
      dsimp only
      refine for_vloop I hk (fun j ρ hj hI => ?_) n ρ (Nat.le_refl _) (by rw [Nat.sub_self]; exact h0)
      obtain ⟨x, ρ2, e1, e2, q⟩ := step j ρ hj hI
      refine ⟨x, e1, ?_⟩
      rw [e2]
      exact wB_ok c body _ _ _ q
  | .whl t body, ρ, Q, E, h => by
    simp only [wS] at h
    unfold zW at h
    obtain ⟨I, n, h0, hf, step⟩ := h
    refine k_whl I n h0 hf fun n ρ hI => (wT_ok c t _ _ _ (step n ρ hI)).mono fun k ρ1 q => ⟨fun hk => ?_, q.2⟩
    obtain ⟨m, e, q⟩ := q.1 hk
    exact ⟨m, e, wB_ok c body _ _ _ q⟩
  | .brk, ρ, Q, E, h => k_brk (by simpa only [wS] using h)
  | .cnt, ρ, Q, E, h => k_cnt (by simpa only [wS] using h)
  | .pas, ρ, Q, E, h => k_pas (by simpa only [wS] using h)
  | .rai d es, ρ, Q, E, h => by
    simp only [wS] at h
    simp only [evS]
    refine sat_bind.mpr ((wL_ok c es _ _ _ h).mono fun ps ρ1 q => ?_)
    cases e : Nat.beq ps.length d.fs.length with
    | true =>
      rw [e] at q
      rw [if_pos (Nat.eq_of_beq_eq_true e)]
      exact wFrzL_ok (k := fun qs => E ⟨d, d.fs.zip qs⟩ ρ1) q
    | false => rw [e] at q; exact q.elim
  | .raif d es, ρ, Q, E, h => by
    simp only [wS] at h
    simp only [evS]
    cases ec : c.cur with
    | none => rw [ec] at h; exact h.elim
    | some x =>
      rw [ec] at h
      refine sat_bind.mpr ((wL_ok c es _ _ _ h).mono fun ps ρ1 q => ?_)
      cases e : Nat.beq ps.length d.fs.length with
      | true =>
        rw [e] at q
        rw [if_pos (Nat.eq_of_beq_eq_true e)]
        exact wFrzL_ok (k := fun qs => E ⟨d, d.fs.zip qs⟩ ρ1) q
      | false => rw [e] at q; exact q.elim
  | .fst i f e, ρ, Q, E, h => by
    simp only [wS] at h
    simp only [evS]
    refine sat_bind.mpr ((wE_ok c e _ _ _ h).mono fun p ρ1 q => ?_)
    have q := wFrz_ok q
    split at q
    · rename_i K fs ea
      try rw [ea]
      try dsimp only
      cases ei : K.fn.idxOf? f with
      | none => rw [ei] at q; exact q.elim
      | some j =>
        rw [ei] at q
        dsimp only at q ⊢
        cases eb : Nat.beq j fs.length with
        | true =>
          rw [eb] at q
          rw [if_pos (Nat.eq_of_beq_eq_true eb)]
          exact q
        | false =>
          rw [eb] at q
          have hne : ¬ j = fs.length := fun z => by
            rw [z, Nat.beq_refl] at eb
            cases eb
          rw [if_neg hne, if_pos q.1]
          exact q.2
    · exact q.elim
  | .tryx body hs, ρ, Q, E, h => by
    simp only [wS] at h
    simp only [evS]
    have h2 := wB_ok c body _ _ _ h
    cases e : evB c body ρ with
    | bad => rw [e] at h2; exact h2.elim
    | ok f ρ1 => rw [e] at h2; exact h2
    | ex x ρ1 => rw [e] at h2; exact wH_ok c hs x ρ1 _ _ h2
  | .appi i k x, ρ, Q, E, h => by
    simp only [wS] at h
    simp only [evS]
    split at h
    · rename_i xs ex
      split at h
      · rename_i ys ey
        try rw [ex]
        try dsimp only
        try rw [ey]
        try dsimp only
        rw [if_pos h.1]
        exact h.2
      · exact h.elim
    · exact h.elim
theorem wH_ok (c : Cf) : ∀ (hs : IH) (x : PX) (ρ : Fr) (Q : Fl → Fr → Prop) (E : PX → Fr → Prop), wH c hs x ρ Q E → (evH c hs x ρ).sat Q E
  | .nil, x, ρ, Q, E, h => by
    simp only [wH] at h
    simp only [evH]
    exact h
  | .cons k i suite r, x, ρ, Q, E, h => by
    simp only [wH] at h
    simp only [evH]
    cases el : x.xd.rel.lookup k with
    | none => rw [el] at h; exact h.elim
    | some b =>
      rw [el] at h
      cases b with
      | false => exact wH_ok c r x ρ _ _ h
      | true =>
        cases i with
        | none =>
          have h2 := wB_ok c suite _ _ _ h
          show (sufR none (evB c suite ρ)).sat Q E
          cases e : evB c suite ρ with
          | bad => rw [e] at h2; exact h2.elim
          | ok f ρ1 => rw [e] at h2; exact h2
          | ex x ρ1 => rw [e] at h2; exact h2.elim
        | some i =>
          dsimp only at h
          cases hb : Nat.blt i ρ.length with
          | false => rw [hb] at h; exact h.elim
          | true =>
            rw [hb] at h
            have h2 := wB_ok { c with cur := some x } suite _ _ _ h
            dsimp only
            rw [if_pos (show fitI (some i) ρ = true from decide_eq_true (Nat.le_of_ble_eq_true hb))]
            show (sufR (some i) (evB { c with cur := some x } suite (ρ.set i none))).sat Q E
            cases e : evB { c with cur := some x } suite (ρ.set i none) with
            | bad => rw [e] at h2; exact h2.elim
            | ok f ρ1 => rw [e] at h2; exact h2
            | ex x ρ1 => rw [e] at h2; exact h2.elim
theorem wB_ok (c : Cf) : ∀ (s : List IS) (ρ : Fr) (Q : Fl → Fr → Prop) (E : PX → Fr → Prop), wB c s ρ Q E → (evB c s ρ).sat Q E
  | [], ρ, Q, E, h => b_nil (by simpa only [wB] using h)
  | s :: r, ρ, Q, E, h => by
    simp only [wB] at h
    refine b_cons ((wS_ok c s _ _ _ h).mono fun f ρ1 q => ?_)
    cases f with
    | nx => exact wB_ok c r _ _ _ (zN_ok (k := fun ρ2 => wB c r ρ2 Q E) q)
    | _ => exact q
end
/-- a def by its body -/
theorem run_ok {T : Tb} {fuel n : Nat} {k : Str} {as : List PV} {d : Fd} {Q : PV → Fr → Prop} {E : PX → Fr → Prop} (hT : T k = some d) (hl : as.length = d.ps) (h : wB ⟨callN T fuel n, lendOf T, fuel, none⟩ d.body (as.map some ++ List.replicate (d.n - d.ps) none) (fun f ρ => match f with
    | .rt p => Q p (maskF d.lend (ρ.take d.ps))
    | .nx => Q .non (maskF d.lend (ρ.take d.ps))
    | _ => False) fun x ρ => E x (maskF d.lend (ρ.take d.ps))) : zC (callN T fuel (n + 1)) k as Q E :=
  zC_ok.mpr (c_run hT hl (wB_ok _ _ _ _ _ h))
theorem zC_true {f : Str → List PV → CR} {k : Str} {as : List PV} (h : zC f k as (fun p _ => p = .bl true) NE) : ∃ as', f k as = .ok (.bl true) as' := sat_true (zC_ok.mp h)
theorem len_lt {n : Nat} (h : Nat.ble n 1000 = true) : n < sizeLine := Nat.lt_of_le_of_lt (Nat.le_of_ble_eq_true h) (by rw [sizeLine_eq]; decide)
theorem ix_inv {xs : List PV} {i : Int} {r : PV} (e : (match L2.atI xs i with
    | some x => if x.fz then some x else none
    | none => none) = some r) : L2.atI xs i = some r ∧ r.fz = true := by
  split at e
  · rename_i x hx
    split at e
    · cases e
      exact ⟨hx, by assumption⟩
    · cases e
  · cases e
theorem wOp_go {f : Op} {ps : List PV} {k : PV → Prop} {r : PV} (e : opN f ps = some r) (h : k r) : wOp f ps k := by
  unfold wOp
  split
  all_goals first
    | exact ⟨r, e, h⟩
    | (have e := Option.some.inj (show some _ = some r from e); subst e; exact h)
    | (obtain ⟨e1, e2⟩ := ix_inv e; exact ⟨r, e1, e2, h⟩)
    | (change (if _ = true then _ else none) = _ at e
       split at e
       · rename_i hc
         first
          | (cases e; exact ⟨of_decide_eq_true hc, h⟩)
          | (cases e; exact ⟨hc, h⟩)
          | (cases e; simp only [Bool.and_eq_true] at hc; exact ⟨⟨hc.1.1, hc.1.2, hc.2⟩, h⟩)
          | (rw [cut_all] at e; cases e; exact ⟨hc, h⟩)
          | (obtain ⟨x, e1, e2⟩ := Option.map_eq_some_iff.mp e; subst e2; exact ⟨hc, x, e1, h⟩)
       · cases e)
    | skip
end Y
end
section
set_option Elab.async false
set_option linter.all false
set_option maxRecDepth 100000
set_option maxHeartbeats 2000000
set_option autoImplicit false
set_option pp.maxSteps 600
/-! V4: what all the laws draw from: the pot. -/
namespace Y
open PySem
local macro_rules
  | `(tactic| decreasing_trivial) => `(tactic| ((conv => whnf); repeat (first | (refine ⟨_, rfl, (by first | assumption | rfl | exact Fz.h | exact FzL.h | exact fz_lst (by assumption) | exact fz_tup (by assumption) | exact fz_lck (by assumption)), ?_⟩; conv => whnf) | (refine ⟨_, rfl, ?_⟩; conv => whnf) | (refine And.intro rfl ?_; conv => whnf) | (refine And.intro (by first | assumption | decide | omega | exact len_lt rfl) ?_; conv => whnf) | (refine And.intro (by first | assumption | rfl | exact Fz.h | exact FzL.h | exact fz_lst (by assumption) | exact fz_tup (by assumption) | exact fz_lck (by assumption)) ?_; conv => whnf) | (refine And.intro (And.intro (by first | assumption | decide | omega | exact len_lt rfl) (by first | assumption | decide | omega | exact len_lt rfl)) ?_; conv => whnf) | (refine And.intro (And.intro (And.intro (by first | assumption | decide | omega | exact len_lt rfl) (by first | assumption | decide | omega | exact len_lt rfl)) (And.intro (by first | assumption | decide | omega | exact len_lt rfl) (by first | assumption | decide | omega | exact len_lt rfl))) ?_; conv => whnf) | (refine And.intro (And.intro (by first | assumption | rfl | exact Fz.h | exact FzL.h | exact fz_lst (by assumption) | exact fz_tup (by assumption) | exact fz_lck (by assumption)) (And.intro (by first | assumption | rfl | exact Fz.h | exact FzL.h | exact fz_lst (by assumption) | exact fz_tup (by assumption) | exact fz_lck (by assumption)) (by first | assumption | rfl | exact Fz.h | exact FzL.h | exact fz_lst (by assumption) | exact fz_tup (by assumption) | exact fz_lck (by assumption)))) ?_; conv => whnf) | (refine And.intro (by first | exact Or.inl (by decide) | exact Or.inr (by decide)) ?_; conv => whnf) | (refine Or.inl (And.intro (by first | assumption | rfl | exact Fz.h | exact FzL.h | exact fz_lst (by assumption) | exact fz_tup (by assumption) | exact fz_lck (by assumption)) ?_); conv => whnf) | (refine ⟨fun _ => ?_, fun z => Bool.noConfusion z⟩; conv => whnf) | (refine ⟨fun z => Bool.noConfusion z, fun _ => ?_⟩; conv => whnf) | (refine frz_go (by first | assumption | rfl | exact Fz.h | exact FzL.h | exact fz_lst (by assumption) | exact fz_tup (by assumption) | exact fz_lck (by assumption)) ?_; conv => whnf) | (refine frzL_go (by first | assumption | rfl | exact Fz.h | exact FzL.h | exact fz_lst (by assumption) | exact fz_tup (by assumption) | exact fz_lck (by assumption)) ?_; conv => whnf) | (refine lst_go (by first | assumption | rfl | exact Fz.h | exact FzL.h | exact fz_lst (by assumption) | exact fz_tup (by assumption) | exact fz_lck (by assumption)) ?_; conv => whnf) | (refine bool_go (by first | assumption | rfl | exact Fz.h | exact FzL.h | exact fz_lst (by assumption) | exact fz_tup (by assumption) | exact fz_lck (by assumption)) ?_; conv => whnf) | (intro p0 z; rw [PV.fz_frz _ (by first | assumption | rfl | exact Fz.h | exact FzL.h | exact fz_lst (by assumption) | exact fz_tup (by assumption) | exact fz_lck (by assumption))] at z; subst z; conv => whnf))))
local macro_rules
  | `(tactic| decreasing_trivial_pre_omega) => `(tactic| ((conv => whnf); repeat (first | (refine And.intro rfl ?_; conv => whnf) | (refine And.intro (by first | assumption | decide | omega | exact len_lt rfl) ?_; conv => whnf) | (refine And.intro (by first | assumption | rfl | exact Fz.h | exact FzL.h | exact fz_lst (by assumption) | exact fz_tup (by assumption) | exact fz_lck (by assumption)) ?_; conv => whnf) | (refine And.intro (And.intro (by first | assumption | decide | omega | exact len_lt rfl) (by first | assumption | decide | omega | exact len_lt rfl)) ?_; conv => whnf) | (refine And.intro (And.intro (And.intro (by first | assumption | decide | omega | exact len_lt rfl) (by first | assumption | decide | omega | exact len_lt rfl)) (And.intro (by first | assumption | decide | omega | exact len_lt rfl) (by first | assumption | decide | omega | exact len_lt rfl))) ?_; conv => whnf) | (refine And.intro (And.intro (by first | assumption | rfl | exact Fz.h | exact FzL.h | exact fz_lst (by assumption) | exact fz_tup (by assumption) | exact fz_lck (by assumption)) (And.intro (by first | assumption | rfl | exact Fz.h | exact FzL.h | exact fz_lst (by assumption) | exact fz_tup (by assumption) | exact fz_lck (by assumption)) (by first | assumption | rfl | exact Fz.h | exact FzL.h | exact fz_lst (by assumption) | exact fz_tup (by assumption) | exact fz_lck (by assumption)))) ?_; conv => whnf) | (refine And.intro (by first | exact Or.inl (by decide) | exact Or.inr (by decide)) ?_; conv => whnf) | (refine Or.inl (And.intro (by first | assumption | rfl | exact Fz.h | exact FzL.h | exact fz_lst (by assumption) | exact fz_tup (by assumption) | exact fz_lck (by assumption)) ?_); conv => whnf) | (refine ⟨fun _ => ?_, fun z => Bool.noConfusion z⟩; conv => whnf) | (refine ⟨fun z => Bool.noConfusion z, fun _ => ?_⟩; conv => whnf) | (refine frz_go (by first | assumption | rfl | exact Fz.h | exact FzL.h | exact fz_lst (by assumption) | exact fz_tup (by assumption) | exact fz_lck (by assumption)) ?_; conv => whnf) | (refine frzL_go (by first | assumption | rfl | exact Fz.h | exact FzL.h | exact fz_lst (by assumption) | exact fz_tup (by assumption) | exact fz_lck (by assumption)) ?_; conv => whnf) | (refine lst_go (by first | assumption | rfl | exact Fz.h | exact FzL.h | exact fz_lst (by assumption) | exact fz_tup (by assumption) | exact fz_lck (by assumption)) ?_; conv => whnf) | (refine bool_go (by first | assumption | rfl | exact Fz.h | exact FzL.h | exact fz_lst (by assumption) | exact fz_tup (by assumption) | exact fz_lck (by assumption)) ?_; conv => whnf) | (intro p0 z; rw [PV.fz_frz _ (by first | assumption | rfl | exact Fz.h | exact FzL.h | exact fz_lst (by assumption) | exact fz_tup (by assumption) | exact fz_lck (by assumption))] at z; subst z; conv => whnf))))
def drawB : List IS := [
  .sub 0 (.cst (.int 3)) (.op (.bin .Add) [.op .ix [.loc 0, .cst (.int 3)], .cst (.int 1)]),
  .ife (.op (.cmp .Eq) [.op .ix [.loc 0, .cst (.int 2)], .cst (.int 0)]) [.set 3 (.op .ix [.op .ix [.loc 0, .cst (.int 0)], .op (.bin .Mod) [.op .int [.op .ix [.loc 0, .cst (.int 1)]], .op .len [.op .ix [.loc 0, .cst (.int 0)]]]]), .sub 0 (.cst (.int 1)) (.op (.bin .Add) [.op .ix [.loc 0, .cst (.int 1)], .cst (.int 1)]), .ife (.op (.cmp .Lt) [.loc 3, .op (.bin .Pow) [.cst (.int 10), .cst (.int 18)]]) [.set 4 (.op (.bin .Mod) [.op .int [.op (.bin .Add) [.op (.bin .Add) [.op (.bin .Mult) [.loc 3, .cst (.int 48271)], .op (.bin .Mult) [.op .ix [.loc 0, .cst (.int 3)], .cst (.int 69621)]], .cst (.int 12345)]], .cst (.int 2147483629)]), .ret (.op (.bin .Mod) [.op (.bin .FloorDiv) [.op (.bin .Mod) [.op .int [.op (.bin .Add) [.op (.bin .Mult) [.loc 4, .cst (.int 16807)], .op (.bin .Mult) [.op .ix [.loc 0, .cst (.int 3)], .cst (.int 104729)]]], .cst (.int 2147483587)], .cst (.int 7)], .loc 1])] [], .sub 0 (.cst (.int 2)) (.loc 3)] [],
  .set 2 (.op (.bin .Mod) [.op .int [.op .ix [.loc 0, .cst (.int 2)]], .loc 1]),
  .sub 0 (.cst (.int 2)) (.op (.bin .FloorDiv) [.op .int [.op .ix [.loc 0, .cst (.int 2)]], .loc 1]),
  .ret (.mov 2)]
def potP (cs : List Int) (i r k : Int) : PV := .lst true [.lst false (cs.map .int), .int i, .int r, .int k]
theorem fzL_ints : ∀ cs : List Int, PV.fzL (cs.map .int) = true
  | [] => rfl
  | c :: cs => by simp [PV.fzL, PV.fz, fzL_ints cs]
theorem frzL_ints (cs : List Int) : PV.frzL (cs.map .int) = cs.map .int := PV.fzL_frzL _ (fzL_ints cs)
theorem fzL_strs : ∀ cs : List Str, PV.fzL (cs.map .str) = true
  | [] => rfl
  | c :: cs => by simp [PV.fzL, PV.fz, fzL_strs cs]
theorem fz_ints (cs : List Int) : (PV.lst false (cs.map .int)).fz = true := by simp [PV.fz, fzL_ints]
theorem fz_strs (cs : List Str) : (PV.lst false (cs.map .str)).fz = true := by simp [PV.fz, fzL_strs]
theorem fzL_app : ∀ (xs ys : List PV), PV.fzL (xs ++ ys) = (PV.fzL xs && PV.fzL ys)
  | [], ys => rfl
  | x :: xs, ys => by simp [PV.fzL, fzL_app xs ys, Bool.and_assoc]
theorem frz_lstp {o : Bool} {xs : List PV} (h : PV.fzL xs = true) : (PV.lst o xs).frz = .lst false xs := by
  simp only [PV.frz, PV.fzL_frzL xs h]
theorem atI_in {α : Type} {xs : List α} {i : Int} (h0 : 0 ≤ i) (h1 : i < xs.length) : ∃ x, L2.atI xs i = some x ∧ x ∈ xs ∧ xs[i.toNat]? = some x := by
  have hl : i.toNat < xs.length := by omega
  have e : xs[i.toNat]? = some xs[i.toNat] := List.getElem?_eq_getElem hl
  refine ⟨xs[i.toNat], ?_, List.getElem_mem hl, e⟩
  have := L2.atI_nat e
  rwa [show ((i.toNat : Nat) : Int) = i from by omega] at this
theorem lg {m : Int} (h0 : 0 < m) (h : m ≤ 10 ^ 18) : m.natAbs.log2 < 9000 := by
  have h1 : m.natAbs ≠ 0 := by omega
  have h2 : m.natAbs < 2 ^ 9000 := Nat.lt_of_lt_of_le (show m.natAbs < 2 ^ 60 by omega) (Nat.pow_le_pow_right (by decide) (by decide))
  exact (Nat.log2_lt h1).mpr h2
theorem draw_ok {T : Tb} {fuel n : Nat} (hT : T ("_law_draw" : Str) = some ⟨5, 2, [true, true], drawB⟩) {cs : List Int} {i r k m : Int} (hc : cs ≠ []) (hm : 0 < m) (hm2 : m.natAbs.log2 < 9000) {Q : PV → Fr → Prop} {E : PX → Fr → Prop}
    (h : ∀ d i' r' k', 0 ≤ d → d < m → Q (.int d) [some (potP cs i' r' k'), some (.int m)]) : zC (callN T fuel (n + 1)) ("_law_draw" : Str) [potP cs i r k, .int m] Q E := by
  have hlen : 0 < (((cs.map PV.int).length : Nat) : Int) := by
    rw [List.length_map]
    have := List.length_pos_iff.mpr hc
    omega
  have hf : (PV.lst false (cs.map .int)).fz = true := by simp [PV.fz, fzL_ints]
  obtain ⟨cell, hcell⟩ : ∃ cell, L2.atI (cs.map PV.int) (i % (((cs.map PV.int).length : Nat) : Int)) = some (.int cell) := by
    obtain ⟨x, h1, h2, _⟩ := atI_in (xs := cs.map PV.int) (Int.emod_nonneg i (by omega)) (Int.emod_lt_of_pos i hlen)
    obtain ⟨c, _, rfl⟩ := List.mem_map.mp h2
    exact ⟨c, h1⟩
  refine run_ok hT rfl ?_
  decreasing_trivial
  refine ⟨fun hk => ?_, fun hk => ?_⟩
  · decreasing_trivial
    refine ⟨_, hcell, rfl, ?_⟩
    decreasing_trivial
    refine ⟨fun hk2 => ?_, fun hk2 => ?_⟩
    · decreasing_trivial
      exact h _ _ _ _ (Int.emod_nonneg _ (by omega)) (Int.emod_lt_of_pos _ hm)
    · decreasing_trivial
      exact h _ _ _ _ (Int.emod_nonneg _ (by omega)) (Int.emod_lt_of_pos _ hm)
  · decreasing_trivial
    exact h _ _ _ _ (Int.emod_nonneg _ (by omega)) (Int.emod_lt_of_pos _ hm)
/-! comprehensions, loops: their heads -/
theorem zK_in {tg : IT} {own : List Nat} {ifs : Fr → (Bool → Fr → Prop) → Prop} {elt : Fr → (PV → Fr → Prop) → Prop} {xs : List PV} {ρ : Fr} {Q : PV → Fr → Prop} (I : List PV → List PV → Fr → Prop) (h0 : I xs [] (wipeF (frzAt ρ own) own)) (hk : ∀ ys ρ2, I [] ys ρ2 → Q (.lst true ys) (backB (frzAt ρ own) ρ2 own))
    (step : ∀ x r acc ρ, I (x :: r) acc ρ → ∃ ρ2, asg tg x ρ = some ρ2 ∧ ifs ρ2 fun k ρ3 => (k = true → elt ρ3 fun y ρ4 => ∃ y', y.frz = y' ∧ acc.length < sizeLine ∧ I r (acc ++ [y']) (wipeF ρ4 own)) ∧ (k = false → I r acc (wipeF ρ3 own))) : zK tg own ifs elt xs ρ Q := by
  unfold zK
  exact .inl ⟨I, h0, hk, step⟩
theorem zK_un {tg : IT} {own : List Nat} {ifs : Fr → (Bool → Fr → Prop) → Prop} {elt : Fr → (PV → Fr → Prop) → Prop} {xs : List PV} {ρ : Fr} {Q : PV → Fr → Prop} (h : zV tg own ifs elt xs [] (wipeF (frzAt ρ own) own) fun ys ρ2 => Q (.lst true ys) (backB (frzAt ρ own) ρ2 own)) : zK tg own ifs elt xs ρ Q := by
  unfold zK
  exact .inr h
theorem zF_un {tg : IT} {body : Fr → (Fl → Fr → Prop) → Prop} {xs : List PV} {ρ : Fr} {Q : Fl → Fr → Prop} {E : PX → Fr → Prop} (h : zU tg body xs ρ Q) : zF tg body xs ρ Q E := by
  unfold zF
  exact .inr h
theorem zF_in {tg : IT} {body : Fr → (Fl → Fr → Prop) → Prop} {xs : List PV} {ρ : Fr} {Q : Fl → Fr → Prop} {E : PX → Fr → Prop} (I : List PV → Fr → Prop) (h0 : I xs ρ) (hk : ∀ ρ, I [] ρ → Q .nx ρ) (step : ∀ x r ρ, I (x :: r) ρ → ∃ ρ2, asg tg x ρ = some ρ2 ∧ body ρ2 fun f ρ1 => match f with
    | .nx => I r ρ1
    | .ct => I r ρ1
    | .bk => Q .nx ρ1
    | .rt p => Q (.rt p) ρ1) : zF tg body xs ρ Q E := by
  unfold zF
  exact .inl ⟨I, h0, hk, step⟩
theorem zKv_in {tg : IT} {own : List Nat} {i : Nat} {ifs : Fr → (Bool → Fr → Prop) → Prop} {elt : Fr → (PV → Fr → Prop) → Prop} {n : Nat} {ρ : Fr} {Q : PV → Fr → Prop} (ho : own.contains i = false) (I : Nat → List PV → Fr → Prop) (h0 : I 0 [] (wipeF (frzAt ρ own) own)) (hk : ∀ ys ρ2, I n ys ρ2 → vwLen ρ2 i n = true ∧ Q (.lst true ys) (backB (frzAt ρ own) ρ2 own))
    (step : ∀ j acc ρ, j < n → I j acc ρ → ∃ x ρ2, vwAt ρ i n j = some x ∧ asg tg x ρ = some ρ2 ∧ ifs ρ2 fun k ρ3 => (k = true → elt ρ3 fun y ρ4 => ∃ y', y.frz = y' ∧ acc.length < sizeLine ∧ I (j + 1) (acc ++ [y']) (wipeF ρ4 own)) ∧ (k = false → I (j + 1) acc (wipeF ρ3 own))) : zKv tg own i ifs elt n ρ Q := by
  unfold zKv
  exact ⟨ho, I, h0, hk, step⟩
theorem zFv_in {tg : IT} {i : Nat} {body : Fr → (Fl → Fr → Prop) → Prop} {n : Nat} {ρ : Fr} {Q : Fl → Fr → Prop} {E : PX → Fr → Prop} (I : Nat → Fr → Prop) (h0 : I 0 ρ) (hk : ∀ ρ, I n ρ → vwLen ρ i n = true ∧ Q .nx ρ) (step : ∀ j ρ, j < n → I j ρ → ∃ x ρ2, vwAt ρ i n j = some x ∧ asg tg x ρ = some ρ2 ∧ body ρ2 fun f ρ1 => match f with
    | .nx => I (j + 1) ρ1
    | .ct => I (j + 1) ρ1
    | .bk => Q .nx ρ1
    | .rt p => Q (.rt p) ρ1) : zFv tg i body n ρ Q E := by
  unfold zFv
  exact ⟨I, h0, hk, step⟩
theorem zC_mono {f : Str → List PV → CR} {k : Str} {as : List PV} {Q Q' : PV → Fr → Prop} {E : PX → Fr → Prop} (h : zC f k as Q' E) (i : ∀ a ρ, Q' a ρ → Q a ρ) : zC f k as Q E := zC_ok.mpr ((zC_ok.mp h).mono i)
/-! the pot -/
def potB : List IS := [
  .ret (.lst [.op (.bin .Add) [.op .list [.loc 0], .op (.bin .Mult) [.lst [.cst (.int 0)], .op .int [.op (.cmp .Eq) [.op .len [.loc 0], .cst (.int 0)]]]], .cst (.int 0), .cst (.int 0), .cst (.int 0)])]
theorem pot_ok {T : Tb} {fuel n : Nat} (hT : T ("_law_pot" : Str) = some ⟨1, 1, [true], potB⟩) {ns : List Int} (hl : ns.length ≤ 63) {Q : PV → Fr → Prop} {E : PX → Fr → Prop} (h : ∀ cs, cs ≠ [] → Q (potP cs 0 0 0) [some (.lck (ns.map .int))]) :
    zC (callN T fuel (n + 1)) ("_law_pot" : Str) [.lck (ns.map .int)] Q E := by
  have hf : (PV.lck (ns.map .int)).fz = true := by simp [PV.fz, fzL_ints]
  have hf2 : PV.fzL (ns.map .int) = true := fzL_ints ns
  cases ns with
  | nil =>
    refine run_ok hT rfl ?_
    decreasing_trivial
    exact h [0] (by simp)
  | cons a ns =>
    have hl2 : okS ((a :: ns).map PV.int).length = true := by
      simp only [List.length_map, List.length_cons] at hl ⊢
      exact decide_eq_true (Nat.le_trans hl (by decide))
    have hf3 : PV.fzL ((a :: ns).map .int ++ []) = true := by rw [List.append_nil]; exact hf2
    have he : decide ((((a :: ns).map PV.int).length : Int) = 0) = false := decide_eq_false (by simp; omega)
    refine run_ok hT rfl ?_
    decreasing_trivial
    rw [he]
    simp only [Bool.false_eq_true, if_false, Int.toNat_zero, List.replicate_zero, List.flatten_nil, List.append_nil]
    exact h (a :: ns) (by simp)
/-! texts -/
theorem join0 : ∀ ss : List Str, (Txt.join ("" : Str) ss).cps.toList = (ss.map fun s => s.cps.toList).flatten := fun ss => by
  rw [show Txt.join ("" : Str) ss = Str.join ("" : Str) ss from TL.join_eq _ _]
  induction ss with
  | nil => rfl
  | cons x r ih =>
    cases r with
    | nil => simp [Str.join]
    | cons y r =>
      rw [show Str.join ("" : Str) (x :: y :: r) = x ++ ("" : Str) ++ Str.join ("" : Str) (y :: r) from rfl]
      show ((x.cps ++ ("" : Str).cps) ++ (Str.join ("" : Str) (y :: r)).cps).toList = _
      rw [Array.toList_append, Array.toList_append, ih, show ("" : Str).cps.toList = [] from by decide +kernel]
      simp
theorem str_len (s : Str) : s.length = s.cps.toList.length := by simp [Str.length]
theorem strsP_mk : ∀ ss : List Str, strsP (ss.map .str) = some ss
  | [] => rfl
  | s :: ss => by simp [strsP, strsP_mk ss]
theorem intsP_mk : ∀ ss : List Int, intsP (ss.map .int) = some ss
  | [] => rfl
  | s :: ss => by simp [intsP, intsP_mk ss]
theorem n_join {z : Str} {o : Bool} {ss : List Str} (h : (ss.map (·.length)).sum + ss.length * z.length ≤ 16777216) : opN .join [.str z, .lst o (ss.map .str)] = some (.str (Txt.join z ss)) := by
  show joinP _ _ = _
  unfold joinP
  simp only [lstOf, Option.bind, strsP_mk]
  rw [if_pos (decide_eq_true h)]
theorem rng_one {d : Int} (h0 : -(2 ^ 62) ≤ d) (h1 : d < 2 ^ 62) : rngN [.int d] = some (rngI 0 d.toNat) := by
  show (if small62 d then _ else none) = _
  rw [if_pos (show small62 d = true from decide_eq_true ⟨h0, h1⟩)]
theorem rng_len : ∀ (n : Nat) (lo : Int), (rngI lo n).length = n
  | 0, _ => rfl
  | n + 1, lo => by simp [rngI, rng_len n]
theorem len0 : ("" : Str).length = 0 := by decide +kernel
theorem sum_ones : ∀ ss : List Str, (∀ s ∈ ss, s.length = 1) → (ss.map (·.length)).sum = ss.length
  | [], _ => rfl
  | s :: ss, h => by
    have h1 := h s List.mem_cons_self
    have h2 := sum_ones ss fun t ht => h t (List.mem_cons_of_mem _ ht)
    simp [h1, h2]
    omega
theorem flat_len : ∀ ss : List Str, (ss.map fun s => s.cps.toList).flatten.length = (ss.map (·.length)).sum
  | [] => rfl
  | s :: ss => by simp [flat_len ss, str_len]
/-! a text of the law's signs -/
def signs : Str := " !\"#$&'()*+,-./0123456789:;<=>?@ABCDEFGHIJKLMNOPQRSTUVWXYZ[\\]^_`abcdefghijklmnopqrstuvwxyz{|}~"
theorem signs_len : signs.cps.toList.length = 94 := by decide +kernel
theorem signs_ok : okS signs.length = true := by decide +kernel
theorem signs_all : ∀ x ∈ signs.cps.toList, 32 ≤ x ∧ x ≤ 126 := by decide +kernel
def textB : List IS := [
  .set 2 (.cst (.str " !\"#$&'()*+,-./0123456789:;<=>?@ABCDEFGHIJKLMNOPQRSTUVWXYZ[\\]^_`abcdefghijklmnopqrstuvwxyz{|}~")),
  .set 3 (.call "_law_draw" [true, true] [.loc 0, .op (.bin .Add) [.loc 1, .cst (.int 1)]]),
  .ret (.op .join [.cst (.str ""), .comp (.op .ix [.loc 2, .call "_law_draw" [true, true] [.loc 0, .cst (.int 94)]]) (.nm 4) (.rng [.loc 3]) [] [4]])]
/-- at most m signs, each from the blank to the tilde -/
def Plain (m : Int) (s : Str) : Prop := (s.length : Int) ≤ m ∧ ∀ x ∈ s.cps.toList, 32 ≤ x ∧ x ≤ 126
theorem text_ok {T : Tb} {fuel n : Nat} (hD : T ("_law_draw" : Str) = some ⟨5, 2, [true, true], drawB⟩) (hT : T ("_law_text" : Str) = some ⟨5, 2, [true, true], textB⟩) {cs : List Int} {i r k m : Int} (hc : cs ≠ []) (hm : 0 ≤ m) (hm2 : m ≤ 1000) {Q : PV → Fr → Prop} {E : PX → Fr → Prop}
    (h : ∀ s i' r' k', Plain m s → Q (.str s) [some (potP cs i' r' k'), some (.int m)]) : zC (callN T fuel (n + 2)) ("_law_text" : Str) [potP cs i r k, .int m] Q E := by
  refine run_ok hT rfl ?_
  decreasing_trivial
  refine draw_ok hD hc (by omega) (lg (by omega) (by omega)) fun d i1 r1 k1 hd0 hd1 => ?_
  decreasing_trivial
  refine zK_in (fun rest acc ρ => (∃ i2 r2 k2, ρ = [some (potP cs i2 r2 k2), some (.int m), some (.str signs), some (.int d), none]) ∧ ∃ ss : List Str, acc = ss.map .str ∧ (∀ s ∈ ss, s.length = 1 ∧ ∀ x ∈ s.cps.toList, 32 ≤ x ∧ x ≤ 126) ∧ ss.length + rest.length = d.toNat) ?_ ?_ ?_
  · exact ⟨⟨_, _, _, rfl⟩, [], rfl, by simp, by simp [rng_len]⟩
  · rintro _ _ ⟨⟨i2, r2, k2, rfl⟩, ss, rfl, hs, hl⟩
    decreasing_trivial
    have hsum := sum_ones ss fun s hs' => (hs s hs').1
    have hl' : ss.length = d.toNat := by simpa using hl
    refine ⟨_, n_join (by rw [hsum, len0, hl']; omega), ?_⟩
    decreasing_trivial
    refine h _ _ _ _ ⟨?_, ?_⟩
    · rw [str_len, join0, flat_len, hsum, hl']
      omega
    · rw [join0]
      intro x hx
      obtain ⟨l, hl1, hl2⟩ := List.mem_flatten.mp hx
      obtain ⟨s, hs1, rfl⟩ := List.mem_map.mp hl1
      exact (hs s hs1).2 x hl2
  · rintro x r acc _ ⟨⟨i2, r2, k2, rfl⟩, ss, rfl, hs, hl⟩
    refine ⟨_, rfl, ?_⟩
    decreasing_trivial
    refine draw_ok hD hc (by decide) (lg (by decide) (by decide)) fun j i3 r3 k3 hj0 hj1 => ?_
    decreasing_trivial
    obtain ⟨z, hz1, hz2, _⟩ := atI_in (xs := signs.cps.toList) hj0 (by rw [signs_len]; exact hj1)
    refine ⟨z, hz1, ?_⟩
    refine ⟨_, rfl, ?_, ⟨_, _, _, rfl⟩, ss ++ [⟨#[z]⟩], by simp [PV.frz], ?_, ?_⟩
    · rw [List.length_map]
      have : ss.length ≤ 1001 := by simp at hl; omega
      exact Nat.lt_of_le_of_lt this (by decide)
    · intro s hs'
      rcases List.mem_append.mp hs' with h1 | h1
      · exact hs s h1
      · rw [List.mem_singleton] at h1
        subst h1
        exact ⟨rfl, fun x hx => by simp at hx; subst hx; exact signs_all _ hz2⟩
    · simp at hl ⊢
      omega
end Y
end
section
set_option Elab.async false
set_option linter.all false
set_option maxRecDepth 100000
set_option maxHeartbeats 2000000
set_option autoImplicit false
set_option pp.maxSteps 600
/-! V5: pools, files, draws out of a list. -/
namespace Y
open PySem
local macro_rules
  | `(tactic| decreasing_trivial) => `(tactic| ((conv => whnf); repeat (first | (refine ⟨_, rfl, (by first | assumption | rfl | exact Fz.h | exact FzL.h | exact fz_lst (by assumption) | exact fz_tup (by assumption) | exact fz_lck (by assumption)), ?_⟩; conv => whnf) | (refine ⟨_, rfl, ?_⟩; conv => whnf) | (refine And.intro rfl ?_; conv => whnf) | (refine And.intro (by first | assumption | decide | omega | exact len_lt rfl) ?_; conv => whnf) | (refine And.intro (by first | assumption | rfl | exact Fz.h | exact FzL.h | exact fz_lst (by assumption) | exact fz_tup (by assumption) | exact fz_lck (by assumption)) ?_; conv => whnf) | (refine And.intro (And.intro (by first | assumption | decide | omega | exact len_lt rfl) (by first | assumption | decide | omega | exact len_lt rfl)) ?_; conv => whnf) | (refine And.intro (And.intro (And.intro (by first | assumption | decide | omega | exact len_lt rfl) (by first | assumption | decide | omega | exact len_lt rfl)) (And.intro (by first | assumption | decide | omega | exact len_lt rfl) (by first | assumption | decide | omega | exact len_lt rfl))) ?_; conv => whnf) | (refine And.intro (And.intro (by first | assumption | rfl | exact Fz.h | exact FzL.h | exact fz_lst (by assumption) | exact fz_tup (by assumption) | exact fz_lck (by assumption)) (And.intro (by first | assumption | rfl | exact Fz.h | exact FzL.h | exact fz_lst (by assumption) | exact fz_tup (by assumption) | exact fz_lck (by assumption)) (by first | assumption | rfl | exact Fz.h | exact FzL.h | exact fz_lst (by assumption) | exact fz_tup (by assumption) | exact fz_lck (by assumption)))) ?_; conv => whnf) | (refine And.intro (by first | exact Or.inl (by decide) | exact Or.inr (by decide)) ?_; conv => whnf) | (refine Or.inl (And.intro (by first | assumption | rfl | exact Fz.h | exact FzL.h | exact fz_lst (by assumption) | exact fz_tup (by assumption) | exact fz_lck (by assumption)) ?_); conv => whnf) | (refine ⟨fun _ => ?_, fun z => Bool.noConfusion z⟩; conv => whnf) | (refine ⟨fun z => Bool.noConfusion z, fun _ => ?_⟩; conv => whnf) | (refine frz_go (by first | assumption | rfl | exact Fz.h | exact FzL.h | exact fz_lst (by assumption) | exact fz_tup (by assumption) | exact fz_lck (by assumption)) ?_; conv => whnf) | (refine frzL_go (by first | assumption | rfl | exact Fz.h | exact FzL.h | exact fz_lst (by assumption) | exact fz_tup (by assumption) | exact fz_lck (by assumption)) ?_; conv => whnf) | (refine lst_go (by first | assumption | rfl | exact Fz.h | exact FzL.h | exact fz_lst (by assumption) | exact fz_tup (by assumption) | exact fz_lck (by assumption)) ?_; conv => whnf) | (refine bool_go (by first | assumption | rfl | exact Fz.h | exact FzL.h | exact fz_lst (by assumption) | exact fz_tup (by assumption) | exact fz_lck (by assumption)) ?_; conv => whnf) | (intro p0 z; rw [PV.fz_frz _ (by first | assumption | rfl | exact Fz.h | exact FzL.h | exact fz_lst (by assumption) | exact fz_tup (by assumption) | exact fz_lck (by assumption))] at z; subst z; conv => whnf))))
local macro_rules
  | `(tactic| decreasing_trivial_pre_omega) => `(tactic| ((conv => whnf); repeat (first | (refine And.intro rfl ?_; conv => whnf) | (refine And.intro (by first | assumption | decide | omega | exact len_lt rfl) ?_; conv => whnf) | (refine And.intro (by first | assumption | rfl | exact Fz.h | exact FzL.h | exact fz_lst (by assumption) | exact fz_tup (by assumption) | exact fz_lck (by assumption)) ?_; conv => whnf) | (refine And.intro (And.intro (by first | assumption | decide | omega | exact len_lt rfl) (by first | assumption | decide | omega | exact len_lt rfl)) ?_; conv => whnf) | (refine And.intro (And.intro (And.intro (by first | assumption | decide | omega | exact len_lt rfl) (by first | assumption | decide | omega | exact len_lt rfl)) (And.intro (by first | assumption | decide | omega | exact len_lt rfl) (by first | assumption | decide | omega | exact len_lt rfl))) ?_; conv => whnf) | (refine And.intro (And.intro (by first | assumption | rfl | exact Fz.h | exact FzL.h | exact fz_lst (by assumption) | exact fz_tup (by assumption) | exact fz_lck (by assumption)) (And.intro (by first | assumption | rfl | exact Fz.h | exact FzL.h | exact fz_lst (by assumption) | exact fz_tup (by assumption) | exact fz_lck (by assumption)) (by first | assumption | rfl | exact Fz.h | exact FzL.h | exact fz_lst (by assumption) | exact fz_tup (by assumption) | exact fz_lck (by assumption)))) ?_; conv => whnf) | (refine And.intro (by first | exact Or.inl (by decide) | exact Or.inr (by decide)) ?_; conv => whnf) | (refine Or.inl (And.intro (by first | assumption | rfl | exact Fz.h | exact FzL.h | exact fz_lst (by assumption) | exact fz_tup (by assumption) | exact fz_lck (by assumption)) ?_); conv => whnf) | (refine ⟨fun _ => ?_, fun z => Bool.noConfusion z⟩; conv => whnf) | (refine ⟨fun z => Bool.noConfusion z, fun _ => ?_⟩; conv => whnf) | (refine frz_go (by first | assumption | rfl | exact Fz.h | exact FzL.h | exact fz_lst (by assumption) | exact fz_tup (by assumption) | exact fz_lck (by assumption)) ?_; conv => whnf) | (refine frzL_go (by first | assumption | rfl | exact Fz.h | exact FzL.h | exact fz_lst (by assumption) | exact fz_tup (by assumption) | exact fz_lck (by assumption)) ?_; conv => whnf) | (refine lst_go (by first | assumption | rfl | exact Fz.h | exact FzL.h | exact fz_lst (by assumption) | exact fz_tup (by assumption) | exact fz_lck (by assumption)) ?_; conv => whnf) | (refine bool_go (by first | assumption | rfl | exact Fz.h | exact FzL.h | exact fz_lst (by assumption) | exact fz_tup (by assumption) | exact fz_lck (by assumption)) ?_; conv => whnf) | (intro p0 z; rw [PV.fz_frz _ (by first | assumption | rfl | exact Fz.h | exact FzL.h | exact fz_lst (by assumption) | exact fz_tup (by assumption) | exact fz_lck (by assumption))] at z; subst z; conv => whnf))))
theorem atI_map {α β : Type} {f : α → β} {xs : List α} {j : Nat} (h : j < xs.length) : L2.atI (xs.map f) (j : Int) = some (f xs[j]) := L2.atI_nat (by simp [h])
theorem datL_strs : ∀ a : List Str, PV.datL (a.map .str) = some (a.map .str)
  | [] => rfl
  | x :: a => by simp [PV.datL, PV.dat, datL_strs a]
theorem all_flat_strs : ∀ a : List Str, (a.map PV.str).all flat = true
  | [] => rfl
  | x :: a => by rw [List.map_cons, List.all_cons, all_flat_strs a]; rfl
theorem any_strs (w : Str) : ∀ a : List Str, ((a.map PyData.str).any fun z => PyData.eqv z (.str w)) = decide (w ∈ a)
  | [] => by simp
  | x :: a => by
    rw [List.map_cons, List.any_cons, any_strs w a, eqv_str]
    by_cases h : x = w
    · simp [h]
    · have : ¬ w = x := fun z => h z.symm
      simp [h, this]
theorem n_in {o : Bool} {w : Str} {ls : List Str} : opN (.cmp .In) [.str w, .lst o (ls.map .str)] = some (.bl (decide (w ∈ ls))) := by
  show (cmpN .In _ _).map _ = _
  simp only [cmpN, all_flat_strs, flat, Bool.and_self, if_true, flatIn, PV.dat, datL_strs, any_strs, Option.map]
theorem n_notin {o : Bool} {w : Str} {ls : List Str} : opN (.cmp .NotIn) [.str w, .lst o (ls.map .str)] = some (.bl (!decide (w ∈ ls))) := by
  show (cmpN .NotIn _ _).map _ = _
  simp only [cmpN, all_flat_strs, flat, Bool.and_self, if_true, flatIn, PV.dat, datL_strs, any_strs, Option.map]
theorem maxI_ge : ∀ (l : List Int) (a x : Int), x ∈ a :: l → x ≤ maxI a l
  | [], a, x, h => by
    simp at h
    simp [maxI, h]
  | b :: l, a, x, h => by
    rw [maxI]
    rcases List.mem_cons.mp h with rfl | h
    · refine Int.le_trans ?_ (maxI_ge l _ _ List.mem_cons_self)
      split <;> omega
    · rcases List.mem_cons.mp h with rfl | h
      · refine Int.le_trans ?_ (maxI_ge l _ _ List.mem_cons_self)
        split <;> omega
      · exact maxI_ge l _ _ (List.mem_cons_of_mem _ h)
theorem maxI_in : ∀ (l : List Int) (a : Int), maxI a l ∈ a :: l
  | [], a => by simp [maxI]
  | b :: l, a => by
    rw [maxI]
    have := maxI_in l (if b > a then b else a)
    rcases List.mem_cons.mp this with h | h
    · rw [h]
      split <;> simp
    · exact List.mem_cons_of_mem _ (List.mem_cons_of_mem _ h)
theorem n_max {o : Bool} {n : Int} {ns : List Int} : opN .max [.lst o ((n :: ns).map .int)] = some (.int (maxI n ns)) := by
  show maxP _ = _
  simp only [maxP, lstOf, Option.bind, intsP_mk]
theorem fold_app : ∀ (l : List (Array Nat)) (a : Array Nat), (l.foldl (· ++ ·) a).toList = a.toList ++ (l.map (·.toList)).flatten
  | [], a => by simp
  | x :: l, a => by
    rw [List.foldl_cons, fold_app l]
    simp
theorem mul_list (x : Str) {n : Int} (h : 1 ≤ n) : (Txt.mul x n).cps.toList = (List.replicate n.toNat x.cps.toList).flatten := by
  unfold Txt.mul
  rw [if_neg (by omega)]
  split
  · rename_i hh
    simp only [Bool.or_eq_true, beq_iff_eq] at hh
    rcases hh with rfl | hh
    · simp
    · have : x.cps.toList = [] := by
        rw [str_len] at hh
        exact List.eq_nil_of_length_eq_zero hh
      rw [this]
      simp
  · show ((List.replicate n.toNat x.cps).foldl (· ++ ·) #[]).toList = _
    rw [fold_app]
    simp
theorem zed : ("z" : Str).cps.toList = [122] := by decide +kernel
theorem mul_z {n : Int} (h : 1 ≤ n) : (Txt.mul ("z" : Str) n).cps.toList = List.replicate n.toNat 122 := by
  rw [mul_list _ h, zed]
  simp [List.flatten_replicate_singleton]
theorem n_mul_str {x : Str} {n : Int} (h1 : 1 ≤ n) (h2 : n ≤ 10000) (hx : x.length ≤ 100) : opN (.bin .Mult) [.str x, .int n] = some (.str (Txt.mul x n)) := by
  show (if decide (MulOk x n) then _ else none) = _
  have hp : x.length * n.toNat ≤ 100 * 10000 := Nat.mul_le_mul hx (by omega)
  have hm : MulOk x n := by
    refine ⟨?_, fun _ _ => ?_, fun _ _ => ?_⟩
    · simp only [Bool.or_eq_false_iff, decide_eq_false_iff_not]
      constructor <;> omega
    · have : (2 ^ 63 - 1) / n ≥ (2 ^ 63 - 1) / 10000 := by
        rw [ge_iff_le, Int.le_ediv_iff_mul_le (by omega)]
        have : (2 ^ 63 - 1 : Int) / 10000 * n ≤ (2 ^ 63 - 1) / 10000 * 10000 := Int.mul_le_mul_of_nonneg_left h2 (by decide)
        omega
      omega
    · show Builtin.Str.tooLong _ = false
      unfold Builtin.Str.tooLong
      simp only [decide_eq_false_iff_not]
      rw [sizeLine_eq]
      omega
  rw [if_pos (decide_eq_true hm)]
theorem n_mul_z {n : Int} (h1 : 1 ≤ n) (h2 : n ≤ 10000) : opN (.bin .Mult) [.str "z", .int n] = some (.str (Txt.mul ("z" : Str) n)) := n_mul_str h1 h2 (by decide +kernel)
theorem Plain.mono {m k : Int} {s : Str} (h : Plain m s) (hk : m ≤ k) : Plain k s := ⟨by have := h.1; omega, h.2⟩
/-! pools -/
def poolB : List IS := [
  .set 3 (.lst []),
  .fors (.nm 4) (.rng [.loc 1]) [.set 5 (.call "_law_text" [true, true] [.loc 0, .loc 2]), .ife (.op (.cmp .Eq) [.call "_law_draw" [true, true] [.loc 0, .cst (.int 9)], .cst (.int 4)]) [.set 5 (.op (.bin .Add) [.cst (.str "other "), .op .str [.op (.bin .Add) [.cst (.int 1), .call "_law_draw" [true, true] [.loc 0, .cst (.int 4)]]]])] [], .ife (.op (.cmp .In) [.loc 5, .loc 3]) [.set 5 (.op (.bin .Mult) [.cst (.str "z"), .op (.bin .Add) [.cst (.int 1), .op .max [.compv (.op .len [.loc 6]) (.nm 6) 3 [] [6]]]])] [], .app 3 (.loc 5)],
  .ret (.mov 3)]
theorem mem_app_one {α : Type} {a : List α} {x y : α} (h : x ∈ a ++ [y]) : x ∈ a ∨ x = y := by
  rcases List.mem_append.mp h with h | h
  · exact .inl h
  · exact .inr (List.mem_singleton.mp h)
theorem mem_of_dec {w : Str} {ls : List Str} (h : decide (w ∈ ls) = true) : w ∈ ls := of_decide_eq_true h
def lenI (s : Str) : Int := s.length
theorem okS_of {n : Nat} (h : n ≤ 10000) : okS n = true := decide_eq_true (Nat.le_trans h (by rw [sizeLine_eq]; decide))
theorem other_fit {d : Int} (h0 : 0 ≤ d) (h1 : d < 4) : okS (("other " : Str).length + ((toString (1 + d) : String) : Str).length) = true ∧ (1 + d).natAbs.log2 < 1920 := by
  obtain rfl | rfl | rfl | rfl : d = 0 ∨ d = 1 ∨ d = 2 ∨ d = 3 := by omega
  all_goals exact ⟨by decide +kernel, by decide +kernel⟩
theorem other_plain {d : Int} (h0 : 0 ≤ d) (h1 : d < 4) : Plain 7 (("other " : Str) ++ ((toString (1 + d) : String) : Str)) := by
  obtain rfl | rfl | rfl | rfl : d = 0 ∨ d = 1 ∨ d = 2 ∨ d = 3 := by omega
  all_goals exact ⟨by decide +kernel, by decide +kernel⟩
theorem take_map_step {α β : Type} {f : α → β} {ls : List α} {j : Nat} (hj : j < ls.length) : (ls.take j).map f ++ [f ls[j]] = (ls.take (j + 1)).map f := by
  rw [List.take_succ_eq_append_getElem hj, List.map_append]
  rfl
theorem pool_step {ls : List Str} {v : Str} {m : Int} (h2 : ls.Nodup) (h3 : ∀ s ∈ ls, Plain (m + ls.length) s) (hv : v ∉ ls) (hp : Plain (m + ls.length + 1) v) : (ls ++ [v]).Nodup ∧ ∀ s ∈ ls ++ [v], Plain (m + (ls ++ [v]).length) s := by
  constructor
  · refine List.nodup_append.mpr ⟨h2, by simp, fun a ha b hb e => ?_⟩
    rw [List.mem_singleton] at hb
    subst hb
    subst e
    exact hv ha
  · intro s hs
    rw [List.length_append]
    rcases mem_app_one hs with h | rfl
    · exact (h3 s h).mono (by simp; omega)
    · exact hp.mono (by simp; omega)
theorem z_new {ls : List Str} {l0 : Str} {l1 : List Str} {m : Int} (e : ls = l0 :: l1) (h3 : ∀ s ∈ ls, Plain (m + ls.length) s) (hm : 0 ≤ m) : (0 ≤ maxI (lenI l0) (l1.map lenI) ∧ maxI (lenI l0) (l1.map lenI) ≤ m + ls.length) ∧ Txt.mul ("z" : Str) (1 + maxI (lenI l0) (l1.map lenI)) ∉ ls ∧ Plain (m + ls.length + 1) (Txt.mul ("z" : Str) (1 + maxI (lenI l0) (l1.map lenI))) := by
  have hmem := maxI_in (l1.map lenI) (lenI l0)
  rw [← List.map_cons, ← e] at hmem
  obtain ⟨s0, hs0, es0⟩ := List.mem_map.mp hmem
  have hge : ∀ s ∈ ls, lenI s ≤ maxI (lenI l0) (l1.map lenI) := fun s hs => maxI_ge _ _ _ (by rw [← List.map_cons, ← e]; exact List.mem_map_of_mem hs)
  have h0 : 0 ≤ maxI (lenI l0) (l1.map lenI) := by rw [← es0]; exact Int.natCast_nonneg _
  have h1 : maxI (lenI l0) (l1.map lenI) ≤ m + ls.length := by rw [← es0]; exact (h3 s0 hs0).1
  have hz := mul_z (n := 1 + maxI (lenI l0) (l1.map lenI)) (by omega)
  have hzl : ((Txt.mul ("z" : Str) (1 + maxI (lenI l0) (l1.map lenI))).length : Int) = 1 + maxI (lenI l0) (l1.map lenI) := by
    rw [str_len, hz, List.length_replicate]
    omega
  refine ⟨⟨h0, h1⟩, fun hin => ?_, by omega, fun x hx => ?_⟩
  · have q : ((Txt.mul ("z" : Str) (1 + maxI (lenI l0) (l1.map lenI))).length : Int) ≤ maxI (lenI l0) (l1.map lenI) := hge _ hin
    omega
  · rw [hz] at hx
    rw [(List.mem_replicate.mp hx).2]
    decide
theorem pool_ok {T : Tb} {fuel n : Nat} (hD : T ("_law_draw" : Str) = some ⟨5, 2, [true, true], drawB⟩) (hX : T ("_law_text" : Str) = some ⟨5, 2, [true, true], textB⟩) (hT : T ("_law_pool" : Str) = some ⟨7, 3, [true, true, true], poolB⟩)
    {cs : List Int} {i r k c m : Int} (M : Int) (hc : cs ≠ []) (hc0 : 0 ≤ c) (hc1 : c ≤ 20) (hm0 : 0 ≤ m) (hmM : m ≤ M) (hm : 7 ≤ M) (hm2 : M ≤ 100) {Q : PV → Fr → Prop} {E : PX → Fr → Prop}
    (h : ∀ (ls : List Str) i' r' k', ls.length = c.toNat → ls.Nodup → (∀ s ∈ ls, Plain (M + c) s) → Q (.lst true (ls.map .str)) [some (potP cs i' r' k'), some (.int c), some (.int m)]) : zC (callN T fuel (n + 3)) ("_law_pool" : Str) [potP cs i r k, .int c, .int m] Q E := by
  refine run_ok hT rfl ?_
  decreasing_trivial
  refine zF_in (fun rest ρ => ∃ (i' r' k' : Int) (ls : List Str) (z4 z5 : Option PV), ls.length + rest.length = c.toNat ∧ ls.Nodup ∧ (∀ s ∈ ls, Plain (M + ls.length) s) ∧ ρ = [some (potP cs i' r' k'), some (.int c), some (.int m), some (.lst true (ls.map .str)), z4, z5, none]) ?_ ?_ ?_
  · exact ⟨_, _, _, [], none, none, by simp [rng_len], by simp, by simp, rfl⟩
  · rintro ρ ⟨i', r', k', ls, z4, z5, h1, h2, h3, rfl⟩
    decreasing_trivial
    refine h ls _ _ _ (by simpa using h1) h2 fun s hs => (h3 s hs).mono ?_
    simp at h1
    omega
  · rintro x rest ρ ⟨i', r', k', ls, z4, z5, h1, h2, h3, rfl⟩
    simp only [List.length_cons] at h1
    refine ⟨_, rfl, ?_⟩
    decreasing_trivial
    refine text_ok hD hX hc (by omega) (by omega) fun s i2 r2 k2 hs => ?_
    decreasing_trivial
    refine draw_ok hD hc (by omega) (lg (by omega) (by omega)) fun d i3 r3 k3 hd0 hd1 => ?_
    decreasing_trivial
    refine ⟨fun hk => ?_, fun hk => ?_⟩
    rotate_left
    · have hw : Plain M s := hs.mono hmM
      decreasing_trivial
      refine ⟨_, n_in, ?_⟩
      decreasing_trivial
      refine ⟨fun hk2 => ?_, fun hk2 => ?_⟩
      · have hin : s ∈ ls := of_decide_eq_true hk2
        obtain ⟨l0, l1, el⟩ : ∃ l0 l1, ls = l0 :: l1 := by
          cases ls with
          | nil => cases hin
          | cons a b => exact ⟨a, b, rfl⟩
        obtain ⟨⟨z0, z1⟩, z2, z3⟩ := z_new el h3 (by omega)
        decreasing_trivial
        refine zKv_in rfl (fun j acc ρ => acc = ((ls.take j).map lenI).map .int ∧ ρ = [some (potP cs i3 r3 k3), some (.int c), some (.int m), some (.lst true (ls.map .str)), some x, some (.str s), none]) ?_ ?_ ?_
        · exact ⟨rfl, rfl⟩
        · rintro ys _ ⟨rfl, rfl⟩
          refine ⟨by simp [vwLen, Fr.at], ?_⟩
          decreasing_trivial
          have et : List.take (List.map PV.str ls).length ls = l0 :: l1 := by rw [List.length_map, List.take_length, el]
          rw [et]
          refine ⟨_, n_max, ?_⟩
          decreasing_trivial
          refine ⟨_, n_mul_z (by omega) (by omega), ?_⟩
          decreasing_trivial
          refine ⟨Nat.lt_of_le_of_lt (show _ ≤ 100 by simp; omega) (by rw [sizeLine_eq]; decide), ?_⟩
          obtain ⟨f1, f2⟩ := pool_step h2 h3 z2 z3
          exact ⟨_, _, _, ls ++ [_], _, _, by simp; omega, f1, f2, by rw [List.map_append]; rfl⟩
        · rintro j acc _ hj ⟨rfl, rfl⟩
          have hj' : j < ls.length := by simpa using hj
          refine ⟨.str ls[j], _, by simp [vwAt, Fr.at, PV.fz, hj'], rfl, ?_⟩
          decreasing_trivial
          have hb := (h3 ls[j] (List.getElem_mem hj')).1
          refine ⟨okS_of (by omega), ?_⟩
          refine ⟨_, rfl, Nat.lt_of_le_of_lt (show _ ≤ 100 by simp; omega) (by rw [sizeLine_eq]; decide), ?_, rfl⟩
          rw [← take_map_step (f := lenI) hj', List.map_append]
          rfl
      · have hout : s ∉ ls := of_decide_eq_false hk2
        decreasing_trivial
        refine ⟨Nat.lt_of_le_of_lt (show _ ≤ 100 by simp; omega) (by rw [sizeLine_eq]; decide), ?_⟩
        obtain ⟨f1, f2⟩ := pool_step h2 h3 hout (hw.mono (by omega))
        exact ⟨_, _, _, ls ++ [_], _, _, by simp; omega, f1, f2, by rw [List.map_append]; rfl⟩
    · have hw : Plain M s := hs.mono hmM
      decreasing_trivial
      refine draw_ok hD hc (by decide) (lg (by decide) (by decide)) fun d2 i3 r3 k3 he0 he1 => ?_
      decreasing_trivial
      obtain ⟨hf1, hf2⟩ := other_fit he0 he1
      have hw2 := other_plain he0 he1
      refine ⟨hf2, ?_⟩
      decreasing_trivial
      generalize hs2 : ("other " : Str) ++ ((toString (1 + d2) : String) : Str) = s2 at hw2
      have hw : Plain M s2 := hw2.mono (by omega)
      refine ⟨_, n_in, ?_⟩
      decreasing_trivial
      refine ⟨fun hk2 => ?_, fun hk2 => ?_⟩
      · have hin : s2 ∈ ls := of_decide_eq_true hk2
        obtain ⟨l0, l1, el⟩ : ∃ l0 l1, ls = l0 :: l1 := by
          cases ls with
          | nil => cases hin
          | cons a b => exact ⟨a, b, rfl⟩
        obtain ⟨⟨z0, z1⟩, z2, z3⟩ := z_new el h3 (by omega)
        decreasing_trivial
        refine zKv_in rfl (fun j acc ρ => acc = ((ls.take j).map lenI).map .int ∧ ρ = [some (potP cs i3 r3 k3), some (.int c), some (.int m), some (.lst true (ls.map .str)), some x, some (.str s2), none]) ?_ ?_ ?_
        · exact ⟨rfl, rfl⟩
        · rintro ys _ ⟨rfl, rfl⟩
          refine ⟨by simp [vwLen, Fr.at], ?_⟩
          decreasing_trivial
          have et : List.take (List.map PV.str ls).length ls = l0 :: l1 := by rw [List.length_map, List.take_length, el]
          rw [et]
          refine ⟨_, n_max, ?_⟩
          decreasing_trivial
          refine ⟨_, n_mul_z (by omega) (by omega), ?_⟩
          decreasing_trivial
          refine ⟨Nat.lt_of_le_of_lt (show _ ≤ 100 by simp; omega) (by rw [sizeLine_eq]; decide), ?_⟩
          obtain ⟨f1, f2⟩ := pool_step h2 h3 z2 z3
          exact ⟨_, _, _, ls ++ [_], _, _, by simp; omega, f1, f2, by rw [List.map_append]; rfl⟩
        · rintro j acc _ hj ⟨rfl, rfl⟩
          have hj' : j < ls.length := by simpa using hj
          refine ⟨.str ls[j], _, by simp [vwAt, Fr.at, PV.fz, hj'], rfl, ?_⟩
          decreasing_trivial
          have hb := (h3 ls[j] (List.getElem_mem hj')).1
          refine ⟨okS_of (by omega), ?_⟩
          refine ⟨_, rfl, Nat.lt_of_le_of_lt (show _ ≤ 100 by simp; omega) (by rw [sizeLine_eq]; decide), ?_, rfl⟩
          rw [← take_map_step (f := lenI) hj', List.map_append]
          rfl
      · have hout : s2 ∉ ls := of_decide_eq_false hk2
        decreasing_trivial
        refine ⟨Nat.lt_of_le_of_lt (show _ ≤ 100 by simp; omega) (by rw [sizeLine_eq]; decide), ?_⟩
        obtain ⟨f1, f2⟩ := pool_step h2 h3 hout (hw.mono (by omega))
        exact ⟨_, _, _, ls ++ [_], _, _, by simp; omega, f1, f2, by rw [List.map_append]; rfl⟩
/-! a file of a pool's lines -/
def fileB : List IS := [
  .set 3 (.call "_law_draw" [true, true] [.loc 0, .op (.bin .Add) [.loc 2, .cst (.int 1)]]),
  .ret (.comp (.op .ix [.loc 1, .call "_law_draw" [true, true] [.loc 0, .op .len [.loc 1]]]) (.nm 4) (.rng [.loc 3]) [] [4])]
theorem atI_str {ls : List Str} {j : Int} (h0 : 0 ≤ j) (h1 : j < ls.length) : ∃ s ∈ ls, L2.atI (ls.map PV.str) j = some (.str s) := by
  have h2 : j.toNat < ls.length := by omega
  refine ⟨ls[j.toNat], List.getElem_mem h2, ?_⟩
  have := atI_map (f := PV.str) h2
  rwa [show ((j.toNat : Nat) : Int) = j from by omega] at this
/-- the list of the lines may stand alone or not: b -/
theorem file_ok {T : Tb} {fuel n : Nat} (hD : T ("_law_draw" : Str) = some ⟨5, 2, [true, true], drawB⟩) (hT : T ("_law_file" : Str) = some ⟨5, 3, [true, true, true], fileB⟩)
    {cs : List Int} {i r k m : Int} {b : Bool} {ls : List Str} (hc : cs ≠ []) (hl : ls ≠ []) (hl2 : ls.length ≤ 1000) (hm : 0 ≤ m) (hm2 : m ≤ 1000) {Q : PV → Fr → Prop} {E : PX → Fr → Prop}
    (h : ∀ (fs : List Str) i' r' k', (fs.length : Int) ≤ m → (∀ s ∈ fs, s ∈ ls) → Q (.lst true (fs.map .str)) [some (potP cs i' r' k'), some (.lst b (ls.map .str)), some (.int m)]) : zC (callN T fuel (n + 2)) ("_law_file" : Str) [potP cs i r k, .lst b (ls.map .str), .int m] Q E := by
  have hlen : 0 < ls.length := List.length_pos_iff.mpr hl
  refine run_ok hT rfl ?_
  decreasing_trivial
  refine draw_ok hD hc (by omega) (lg (by omega) (by omega)) fun d i1 r1 k1 hd0 hd1 => ?_
  decreasing_trivial
  refine zK_in (fun rest acc ρ => ∃ (i2 r2 k2 : Int) (fs : List Str), acc = fs.map .str ∧ fs.length + rest.length = d.toNat ∧ (∀ s ∈ fs, s ∈ ls) ∧ ρ = [some (potP cs i2 r2 k2), some (.lst b (ls.map .str)), some (.int m), some (.int d), none]) ?_ ?_ ?_
  · exact ⟨_, _, _, [], rfl, by simp [rng_len], by simp, rfl⟩
  · rintro _ _ ⟨i2, r2, k2, fs, rfl, h1, h2, rfl⟩
    decreasing_trivial
    refine h fs _ _ _ ?_ h2
    simp at h1
    omega
  · rintro x rest acc _ ⟨i2, r2, k2, fs, rfl, h1, h2, rfl⟩
    simp only [List.length_cons] at h1
    refine ⟨_, rfl, ?_⟩
    decreasing_trivial
    have el : (((ls.map PV.str).length : Nat) : Int) = (ls.length : Int) := by simp
    rw [el]
    refine draw_ok hD hc (by omega) (lg (by omega) (by omega)) fun j i3 r3 k3 hj0 hj1 => ?_
    decreasing_trivial
    obtain ⟨s, hs, es⟩ := atI_str hj0 hj1
    refine ⟨_, es, rfl, ?_⟩
    refine ⟨_, rfl, Nat.lt_of_le_of_lt (show _ ≤ 1001 by simp; omega) (by rw [sizeLine_eq]; decide), _, _, _, fs ++ [s], by simp [PV.frz], by simp; omega, fun t ht => ?_, rfl⟩
    rcases mem_app_one ht with h | rfl
    · exact h2 t h
    · exact hs
end Y
end
section
set_option Elab.async false
set_option linter.all false
set_option maxRecDepth 100000
set_option maxHeartbeats 2000000
set_option autoImplicit false
set_option pp.maxSteps 600
/-! V6: == of lists of one kind. -/
namespace Y
open PySem
theorem datL_of {α : Type} {f : α → PV} {g : α → PyData} (h : ∀ x, (f x).dat = some (g x)) : ∀ xs : List α, PV.datL (xs.map f) = some (xs.map g)
  | [] => rfl
  | x :: xs => by simp only [List.map_cons, PV.datL, h, datL_of h xs]
theorem eqvAll_of {α : Type} [DecidableEq α] {g : α → PyData} (h : ∀ x y, PyData.eqv (g x) (g y) = decide (x = y)) : ∀ xs ys : List α, PyData.eqvAll (xs.map g) (ys.map g) = decide (xs = ys)
  | [], [] => rfl
  | [], _ :: _ => rfl
  | _ :: _, [] => rfl
  | x :: a, y :: b => by
    simp only [List.map_cons, PyData.eqvAll, eqvAll_of h a b, h]
    by_cases e : x = y <;> by_cases e2 : a = b <;> simp [e, e2]
theorem depthAll_of {α : Type} {g : α → PyData} {m : Nat} (h : ∀ x, (g x).depth ≤ m) : ∀ xs : List α, PyData.depthAll (xs.map g) ≤ m
  | [] => by simp [PyData.depthAll]
  | x :: xs => by
    have h1 := h x
    have h2 := depthAll_of h xs
    simp only [List.map_cons, PyData.depthAll]
    omega
/-- data of one kind -/
structure Kd (α : Type) [DecidableEq α] where
  f : α → PV
  g : α → PyData
  m : Nat
  dat : ∀ x, (f x).dat = some (g x)
  eqv : ∀ x y, PyData.eqv (g x) (g y) = decide (x = y)
  dep : ∀ x, (g x).depth ≤ m
theorem kd_eq {α : Type} [DecidableEq α] (K : Kd α) (hm : K.m < 60) {o o2 : Bool} {xs ys : List α} : opN (.cmp .Eq) [.lst o (xs.map K.f), .lst o2 (ys.map K.f)] = some (.bl (decide (xs = ys))) := by
  show (cmpN .Eq _ _).map _ = _
  have hd := depthAll_of K.dep xs
  have h1 : (PyData.list (xs.map K.g)).depth ≤ 60 := by simp only [PyData.depth]; omega
  simp only [cmpN, cdat, PV.dat, datL_of K.dat, Option.map, decide_eq_true h1, if_true, PyData.eqv, eqvAll_of K.eqv]
theorem kd_ne {α : Type} [DecidableEq α] (K : Kd α) (hm : K.m < 60) {o o2 : Bool} {xs ys : List α} : opN (.cmp .NotEq) [.lst o (xs.map K.f), .lst o2 (ys.map K.f)] = some (.bl (!decide (xs = ys))) := by
  show (cmpN .NotEq _ _).map _ = _
  have hd := depthAll_of K.dep xs
  have h1 : (PyData.list (xs.map K.g)).depth ≤ 60 := by simp only [PyData.depth]; omega
  simp only [cmpN, cdat, PV.dat, datL_of K.dat, Option.map, decide_eq_true h1, if_true, PyData.eqv, eqvAll_of K.eqv]
def kStr : Kd Str := ⟨.str, .str, 0, fun _ => rfl, eqv_str, fun _ => by simp [PyData.depth]⟩
def kInt : Kd Int := ⟨.int, .int, 0, fun _ => rfl, eqv_int, fun _ => by simp [PyData.depth]⟩
def Kd.list {α : Type} [DecidableEq α] (K : Kd α) : Kd (List α) := ⟨fun xs => .lst false (xs.map K.f), fun xs => .list (xs.map K.g), K.m + 1, fun xs => by simp only [PV.dat, datL_of K.dat]; rfl, fun xs ys => by simp only [PyData.eqv, eqvAll_of K.eqv],
  fun xs => by have := depthAll_of K.dep xs; simp only [PyData.depth]; omega⟩
theorem n_eqS {o o2 : Bool} {xs ys : List Str} : opN (.cmp .Eq) [.lst o (xs.map .str), .lst o2 (ys.map .str)] = some (.bl (decide (xs = ys))) := kd_eq kStr (by decide)
theorem n_neS {o o2 : Bool} {xs ys : List Str} : opN (.cmp .NotEq) [.lst o (xs.map .str), .lst o2 (ys.map .str)] = some (.bl (!decide (xs = ys))) := kd_ne kStr (by decide)
theorem n_neS0 {o o2 : Bool} {xs : List Str} : opN (.cmp .NotEq) [.lst o (xs.map .str), .lst o2 []] = some (.bl (!decide (xs = []))) := kd_ne kStr (by decide) (ys := [])
/-- a file -/
abbrev fP (a : List Str) : PV := .lst false (a.map .str)
theorem n_eqF {o o2 : Bool} {xs ys : List (List Str)} : opN (.cmp .Eq) [.lst o (xs.map fP), .lst o2 (ys.map fP)] = some (.bl (decide (xs = ys))) := kd_eq kStr.list (by decide)
theorem n_neF {o o2 : Bool} {xs ys : List (List Str)} : opN (.cmp .NotEq) [.lst o (xs.map fP), .lst o2 (ys.map fP)] = some (.bl (!decide (xs = ys))) := kd_ne kStr.list (by decide)
theorem fzL_fP : ∀ xs : List (List Str), PV.fzL (xs.map fP) = true
  | [] => rfl
  | x :: xs => by simp [PV.fzL, fz_strs, fzL_fP xs]
theorem vwAt_map {α : Type} {f : α → PV} (hf : ∀ x, (f x).fz = true) {ρ : Fr} {i j : Nat} {o : Bool} {xs : List α} (e : ρ.at i = some (.lst o (xs.map f))) (hj : j < xs.length) : vwAt ρ i (xs.map f).length j = some (f xs[j]) := by
  simp only [vwAt, e, if_true]
  simp [hj, hf]
theorem vwLen_map {α : Type} {f : α → PV} {ρ : Fr} {i : Nat} {o : Bool} {xs : List α} (e : ρ.at i = some (.lst o (xs.map f))) : vwLen ρ i (xs.map f).length = true := by
  simp only [vwLen, e]
  simp
theorem cut_map {α β : Type} (f : α → β) (xs : List α) (lo hi : Option Int) : cutP (xs.map f) lo hi = (cutP xs lo hi).map f := by
  simp only [cutP, List.length_map, List.map_take, List.map_drop]
theorem cut_len {α : Type} (xs : List α) (lo hi : Option Int) : (cutP xs lo hi).length ≤ xs.length := by
  simp only [cutP, List.length_take, List.length_drop]
  omega
theorem cut_mem {α : Type} {xs : List α} {lo hi : Option Int} {x : α} (h : x ∈ cutP xs lo hi) : x ∈ xs := List.mem_of_mem_drop (List.mem_of_mem_take h)
theorem ixN_in {n : Nat} {i : Int} (h0 : 0 ≤ i) (h1 : i < n) : L2.ixN n i = some i.toNat := by
  unfold L2.ixN
  rw [if_pos h0, if_pos h1]
theorem atI_get {α β : Type} {f : α → β} {xs : List α} {j : Int} (h0 : 0 ≤ j) (h1 : j < xs.length) : ∃ (hj : j.toNat < xs.length), L2.atI (xs.map f) j = some (f xs[j.toNat]) := by
  have h2 : j.toNat < xs.length := by omega
  refine ⟨h2, ?_⟩
  have := atI_map (f := f) h2
  rwa [show ((j.toNat : Nat) : Int) = j from by omega] at this
theorem small_lt {n m : Nat} (h : n ≤ m) (hm : m ≤ 10000 := by decide) : n < sizeLine := Nat.lt_of_le_of_lt h (Nat.lt_of_le_of_lt hm (by rw [sizeLine_eq]; decide))
end Y
end
section
set_option Elab.async false
set_option linter.all false
set_option maxRecDepth 100000
set_option maxHeartbeats 2000000
set_option autoImplicit false
set_option pp.maxSteps 600
/-! V7: lines, bools, == of what is the same. -/
namespace Y
open PySem
local macro_rules
  | `(tactic| decreasing_trivial) => `(tactic| ((conv => whnf); repeat (first | (refine ⟨_, rfl, (by first | assumption | rfl | exact Fz.h | exact FzL.h | exact fz_lst (by assumption) | exact fz_tup (by assumption) | exact fz_lck (by assumption)), ?_⟩; conv => whnf) | (refine ⟨_, rfl, ?_⟩; conv => whnf) | (refine And.intro rfl ?_; conv => whnf) | (refine And.intro (by first | assumption | decide | omega | exact len_lt rfl) ?_; conv => whnf) | (refine And.intro (by first | assumption | rfl | exact Fz.h | exact FzL.h | exact fz_lst (by assumption) | exact fz_tup (by assumption) | exact fz_lck (by assumption)) ?_; conv => whnf) | (refine And.intro (And.intro (by first | assumption | decide | omega | exact len_lt rfl) (by first | assumption | decide | omega | exact len_lt rfl)) ?_; conv => whnf) | (refine And.intro (And.intro (And.intro (by first | assumption | decide | omega | exact len_lt rfl) (by first | assumption | decide | omega | exact len_lt rfl)) (And.intro (by first | assumption | decide | omega | exact len_lt rfl) (by first | assumption | decide | omega | exact len_lt rfl))) ?_; conv => whnf) | (refine And.intro (And.intro (by first | assumption | rfl | exact Fz.h | exact FzL.h | exact fz_lst (by assumption) | exact fz_tup (by assumption) | exact fz_lck (by assumption)) (And.intro (by first | assumption | rfl | exact Fz.h | exact FzL.h | exact fz_lst (by assumption) | exact fz_tup (by assumption) | exact fz_lck (by assumption)) (by first | assumption | rfl | exact Fz.h | exact FzL.h | exact fz_lst (by assumption) | exact fz_tup (by assumption) | exact fz_lck (by assumption)))) ?_; conv => whnf) | (refine And.intro (by first | exact Or.inl (by decide) | exact Or.inr (by decide)) ?_; conv => whnf) | (refine Or.inl (And.intro (by first | assumption | rfl | exact Fz.h | exact FzL.h | exact fz_lst (by assumption) | exact fz_tup (by assumption) | exact fz_lck (by assumption)) ?_); conv => whnf) | (refine ⟨fun _ => ?_, fun z => Bool.noConfusion z⟩; conv => whnf) | (refine ⟨fun z => Bool.noConfusion z, fun _ => ?_⟩; conv => whnf) | (refine frz_go (by first | assumption | rfl | exact Fz.h | exact FzL.h | exact fz_lst (by assumption) | exact fz_tup (by assumption) | exact fz_lck (by assumption)) ?_; conv => whnf) | (refine frzL_go (by first | assumption | rfl | exact Fz.h | exact FzL.h | exact fz_lst (by assumption) | exact fz_tup (by assumption) | exact fz_lck (by assumption)) ?_; conv => whnf) | (refine lst_go (by first | assumption | rfl | exact Fz.h | exact FzL.h | exact fz_lst (by assumption) | exact fz_tup (by assumption) | exact fz_lck (by assumption)) ?_; conv => whnf) | (refine bool_go (by first | assumption | rfl | exact Fz.h | exact FzL.h | exact fz_lst (by assumption) | exact fz_tup (by assumption) | exact fz_lck (by assumption)) ?_; conv => whnf) | (intro p0 z; rw [PV.fz_frz _ (by first | assumption | rfl | exact Fz.h | exact FzL.h | exact fz_lst (by assumption) | exact fz_tup (by assumption) | exact fz_lck (by assumption))] at z; subst z; conv => whnf))))
local macro_rules
  | `(tactic| decreasing_trivial_pre_omega) => `(tactic| ((conv => whnf); repeat (first | (refine And.intro rfl ?_; conv => whnf) | (refine And.intro (by first | assumption | decide | omega | exact len_lt rfl) ?_; conv => whnf) | (refine And.intro (by first | assumption | rfl | exact Fz.h | exact FzL.h | exact fz_lst (by assumption) | exact fz_tup (by assumption) | exact fz_lck (by assumption)) ?_; conv => whnf) | (refine And.intro (And.intro (by first | assumption | decide | omega | exact len_lt rfl) (by first | assumption | decide | omega | exact len_lt rfl)) ?_; conv => whnf) | (refine And.intro (And.intro (And.intro (by first | assumption | decide | omega | exact len_lt rfl) (by first | assumption | decide | omega | exact len_lt rfl)) (And.intro (by first | assumption | decide | omega | exact len_lt rfl) (by first | assumption | decide | omega | exact len_lt rfl))) ?_; conv => whnf) | (refine And.intro (And.intro (by first | assumption | rfl | exact Fz.h | exact FzL.h | exact fz_lst (by assumption) | exact fz_tup (by assumption) | exact fz_lck (by assumption)) (And.intro (by first | assumption | rfl | exact Fz.h | exact FzL.h | exact fz_lst (by assumption) | exact fz_tup (by assumption) | exact fz_lck (by assumption)) (by first | assumption | rfl | exact Fz.h | exact FzL.h | exact fz_lst (by assumption) | exact fz_tup (by assumption) | exact fz_lck (by assumption)))) ?_; conv => whnf) | (refine And.intro (by first | exact Or.inl (by decide) | exact Or.inr (by decide)) ?_; conv => whnf) | (refine Or.inl (And.intro (by first | assumption | rfl | exact Fz.h | exact FzL.h | exact fz_lst (by assumption) | exact fz_tup (by assumption) | exact fz_lck (by assumption)) ?_); conv => whnf) | (refine ⟨fun _ => ?_, fun z => Bool.noConfusion z⟩; conv => whnf) | (refine ⟨fun z => Bool.noConfusion z, fun _ => ?_⟩; conv => whnf) | (refine frz_go (by first | assumption | rfl | exact Fz.h | exact FzL.h | exact fz_lst (by assumption) | exact fz_tup (by assumption) | exact fz_lck (by assumption)) ?_; conv => whnf) | (refine frzL_go (by first | assumption | rfl | exact Fz.h | exact FzL.h | exact fz_lst (by assumption) | exact fz_tup (by assumption) | exact fz_lck (by assumption)) ?_; conv => whnf) | (refine lst_go (by first | assumption | rfl | exact Fz.h | exact FzL.h | exact fz_lst (by assumption) | exact fz_tup (by assumption) | exact fz_lck (by assumption)) ?_; conv => whnf) | (refine bool_go (by first | assumption | rfl | exact Fz.h | exact FzL.h | exact fz_lst (by assumption) | exact fz_tup (by assumption) | exact fz_lck (by assumption)) ?_; conv => whnf) | (intro p0 z; rw [PV.fz_frz _ (by first | assumption | rfl | exact Fz.h | exact FzL.h | exact fz_lst (by assumption) | exact fz_tup (by assumption) | exact fz_lck (by assumption))] at z; subst z; conv => whnf))))
def inR (c : Nat) : Bool := decide (32 ≤ c) && decide (c ≤ 126)
theorem fzL_of {α : Type} {f : α → PV} (h : ∀ x, (f x).fz = true) : ∀ xs : List α, PV.fzL (xs.map f) = true
  | [] => rfl
  | x :: xs => by simp [PV.fzL, h x, fzL_of h xs]
theorem fzL_bls (xs : List Bool) : PV.fzL (xs.map .bl) = true := fzL_of (fun _ => rfl) xs
theorem boolsP_mk : ∀ bs : List Bool, boolsP (bs.map .bl) = some bs
  | [] => rfl
  | b :: bs => by simp [boolsP, boolsP_mk bs]
theorem n_all {o : Bool} {bs : List Bool} : opN .all [.lst o (bs.map .bl)] = some (.bl (bs.all id)) := by
  show (((lstOf _).bind boolsP).map _) = _
  simp only [lstOf, Option.bind, boolsP_mk]
  rfl
theorem n_any {o : Bool} {bs : List Bool} : opN .any [.lst o (bs.map .bl)] = some (.bl (bs.any id)) := by
  show (((lstOf _).bind boolsP).map _) = _
  simp only [lstOf, Option.bind, boolsP_mk]
  rfl
theorem le_one (a b : Nat) : decide ([a] ≤ [b]) = decide (a ≤ b) := by
  by_cases h : a ≤ b
  · rw [decide_eq_true h]
    exact decide_eq_true (by rw [List.cons_le_cons_iff]; rcases Nat.lt_or_eq_of_le h with z | z
                             · exact .inl z
                             · exact .inr ⟨z, List.nil_le _⟩)
  · rw [decide_eq_false h]
    exact decide_eq_false (by rw [List.cons_le_cons_iff]; rintro (z | ⟨z, _⟩) <;> omega)
/-- a file's line -/
def LnOk (s : Str) : Bool := decide (s.length ≤ 80) && (s.cps.toList.map inR).all id
theorem lnOk_plain {m : Int} {s : Str} (hm : m ≤ 80) (h : Plain m s) : LnOk s = true := by
  have h1 : s.length ≤ 80 := by have := h.1; omega
  simp only [LnOk, decide_eq_true h1, Bool.true_and]
  refine List.all_eq_true.mpr fun b hb => ?_
  obtain ⟨c, hc, rfl⟩ := List.mem_map.mp hb
  have := h.2 c hc
  simp [inR, this.1, this.2]
def islB : List IS := [
  .ife (.or (.op .not [.op .isi [.loc 0, .cst (.ty "str")]]) (.op (.cmp .Gt) [.op .len [.loc 0], .cst (.int 80)])) [.ret (.cst (.bl false))] [],
  .ret (.op .all [.comp (.chain .LtE .LtE (.cst (.str " ")) (.loc 1) (.cst (.str "~"))) (.nm 1) (.it (.loc 0)) [] [1]])]
theorem isl_str {T : Tb} {fuel n : Nat} (hT : T ("is_line" : Str) = some ⟨2, 1, [true], islB⟩) {s : Str} (hs : s.length ≤ 10000) {Q : PV → Fr → Prop} {E : PX → Fr → Prop} (h : Q (.bl (LnOk s)) [some (.str s)]) : zC (callN T fuel (n + 1)) ("is_line" : Str) [.str s] Q E := by
  have h0 : okS s.length = true := okS_of (Nat.le_trans hs (by decide))
  refine run_ok hT rfl ?_
  decreasing_trivial
  refine ⟨fun hk => ?_, fun hk => ?_⟩
  · decreasing_trivial
    have e : LnOk s = false := by
      have : ¬ s.length ≤ 80 := by have := of_decide_eq_true hk; omega
      simp [LnOk, this]
    rw [e] at h
    exact h
  · decreasing_trivial
    refine zK_in (fun rest acc ρ => ∃ done todo : List Nat, s.cps.toList = done ++ todo ∧ rest = todo.map (fun k => PV.str ⟨#[k]⟩) ∧ acc = (done.map inR).map .bl ∧ ρ = [some (.str s), none]) ?_ ?_ ?_
    · exact ⟨[], _, rfl, rfl, rfl, rfl⟩
    · rintro _ _ ⟨done, todo, e1, e2, rfl, rfl⟩
      have e3 : todo = [] := by simpa using e2.symm
      subst e3
      rw [List.append_nil] at e1
      have hf : PV.fzL ((done.map inR).map .bl) = true := fzL_bls _
      decreasing_trivial
      refine ⟨_, n_all, ?_⟩
      decreasing_trivial
      have e : LnOk s = (done.map inR).all id := by
        have : s.length ≤ 80 := by have := of_decide_eq_false hk; omega
        simp only [LnOk, this, decide_true, Bool.true_and, e1]
      rw [e] at h
      exact h
    · rintro y r acc _ ⟨done, todo, e1, e2, rfl, rfl⟩
      cases todo with
      | nil => simp at e2
      | cons c todo =>
        rw [List.map_cons] at e2
        obtain ⟨rfl, rfl⟩ := List.cons.inj e2
        have hl : done.length ≤ 10000 := by
          have h3 : s.cps.toList.length = done.length + (todo.length + 1) := by rw [e1]; simp
          rw [str_len] at hs
          omega
        have hl2 : ((done.map inR).map PV.bl).length < sizeLine := by
          simp only [List.length_map]
          exact small_lt hl
        refine ⟨_, rfl, ?_⟩
        decreasing_trivial
        refine ⟨fun hk => ?_, fun hk => ?_⟩
        · have h1 : decide ([32] ≤ [c]) = false := hk
          rw [le_one] at h1
          exact ⟨_, rfl, hl2, done ++ [c], todo, by simpa using e1, rfl, by simp [inR, PV.frz, of_decide_eq_false h1], rfl⟩
        · have h1 : decide ([32] ≤ [c]) = true := hk
          rw [le_one] at h1
          have h2 : (PV.bl (decide ([c] ≤ [126]))).frz = .bl (inR c) := by
            rw [le_one]
            simp [inR, PV.frz, of_decide_eq_true h1]
          decreasing_trivial
          exact ⟨done ++ [c], todo, by simpa using e1, rfl, by rw [List.map_append, List.map_append]; exact congrArg (fun z => List.map PV.bl (List.map inR done) ++ [z]) h2, rfl⟩
/-- what is no str -/
def NotStr (p : PV) : Prop := p = .non ∨ (∃ b, p = .bl b) ∨ (∃ i, p = .int i) ∨ (∃ xs, p = .lst false xs ∧ PV.fzL xs = true) ∨ ∃ xs, p = .tup xs ∧ PV.fzL xs = true
theorem isl_no {T : Tb} {fuel n : Nat} (hT : T ("is_line" : Str) = some ⟨2, 1, [true], islB⟩) {p : PV} (hp : NotStr p) {Q : PV → Fr → Prop} {E : PX → Fr → Prop} (h : Q (.bl false) [some p]) : zC (callN T fuel (n + 1)) ("is_line" : Str) [p] Q E := by
  rcases hp with rfl | ⟨b, rfl⟩ | ⟨i, rfl⟩ | ⟨xs, rfl, hf⟩ | ⟨xs, rfl, hf⟩
  · refine run_ok hT rfl ?_
    conv => whnf
    refine And.intro rfl ?_
    rw [show isiT "NoneType" "str" = false from by decide +kernel]
    decreasing_trivial
    exact h
  · refine run_ok hT rfl ?_
    conv => whnf
    refine And.intro rfl ?_
    rw [show isiT "bool" "str" = false from by decide +kernel]
    decreasing_trivial
    exact h
  · refine run_ok hT rfl ?_
    conv => whnf
    refine And.intro rfl ?_
    rw [show isiT "int" "str" = false from by decide +kernel]
    decreasing_trivial
    exact h
  · refine run_ok hT rfl ?_
    conv => whnf
    refine And.intro rfl ?_
    rw [show isiT "list" "str" = false from by decide +kernel]
    decreasing_trivial
    exact h
  · refine run_ok hT rfl ?_
    conv => whnf
    refine And.intro rfl ?_
    rw [show isiT "tuple" "str" = false from by decide +kernel]
    decreasing_trivial
    exact h
def isB : List IS := [
  .ret (.and (.op .isi [.loc 0, .cst (.ty "bool")]) (.op (.cmp .Eq) [.loc 0, .loc 1]))]
theorem is_ok {T : Tb} {fuel n : Nat} (hT : T ("_law_is" : Str) = some ⟨2, 2, [true, true], isB⟩) {a b : Bool} {Q : PV → Fr → Prop} {E : PX → Fr → Prop} (h : Q (.bl (decide (a = b))) [some (.bl a), some (.bl b)]) : zC (callN T fuel (n + 1)) ("_law_is" : Str) [.bl a, .bl b] Q E := by
  refine run_ok hT rfl ?_
  decreasing_trivial
  cases a <;> cases b <;> exact h
theorem n_eqR {p q : PV} {d : PyData} (hp : p.dat = some d) (hq : q.dat = some d) (hd : d.plain = true) (hz : d.depth ≤ 60) : opN (.cmp .Eq) [p, q] = some (.bl true) := by
  show (cmpN .Eq p q).map PV.bl = _
  simp only [cmpN, cdat, hp, hq, decide_eq_true hz, if_true, Option.map, PySem.SeqAt.eqv_refl_plain d hd]
theorem n_neR {p q : PV} {d : PyData} (hp : p.dat = some d) (hq : q.dat = some d) (hd : d.plain = true) (hz : d.depth ≤ 60) : opN (.cmp .NotEq) [p, q] = some (.bl false) := by
  show (cmpN .NotEq p q).map PV.bl = _
  simp only [cmpN, cdat, hp, hq, decide_eq_true hz, if_true, Option.map, PySem.SeqAt.eqv_refl_plain d hd]
  rfl
theorem n_eqD {p q : PV} {d e : PyData} (hp : p.dat = some d) (hq : q.dat = some e) (hz : d.depth ≤ 60) : opN (.cmp .Eq) [p, q] = some (.bl (PyData.eqv d e)) := by
  show (cmpN .Eq p q).map PV.bl = _
  simp only [cmpN, cdat, hp, hq, decide_eq_true hz, if_true, Option.map]
theorem n_neD {p q : PV} {d e : PyData} (hp : p.dat = some d) (hq : q.dat = some e) (hz : d.depth ≤ 60) : opN (.cmp .NotEq) [p, q] = some (.bl (!PyData.eqv d e)) := by
  show (cmpN .NotEq p q).map PV.bl = _
  simp only [cmpN, cdat, hp, hq, decide_eq_true hz, if_true, Option.map]
theorem no_ne {d : PyData} (hp : d.plain = true) {P : Prop} (h : PyData.eqv d d = false) : P := by
  rw [PySem.SeqAt.eqv_refl_plain d hp] at h
  cases h
theorem eq_self {d : PyData} (hp : d.plain = true) : PyData.eqv d d = true := PySem.SeqAt.eqv_refl_plain d hp
theorem no_nn {d : PyData} (hp : d.plain = true) {P : Prop} (h : (!PyData.eqv d d) = true) : P := by
  rw [PySem.SeqAt.eqv_refl_plain d hp] at h
  cases h
end Y
end
section
set_option Elab.async false
set_option linter.all false
set_option autoImplicit false
/-! M1: spans of blocks, words of rows: plain. -/
namespace Y
section
variable {α : Type} [DecidableEq α]
/-- the blocks' spans: i the next row's index, st the open begin -/
def spn (b e : α) : List α → Nat → Option Nat → List (Nat × Nat)
  | [], _, _ => []
  | r :: rs, i, st => if r = b then spn b e rs (i + 1) (some i) else if r = e then (match st with
      | some s => (s, i) :: spn b e rs (i + 1) none
      | none => spn b e rs (i + 1) none) else spn b e rs (i + 1) st
theorem spn_len (b e : α) : ∀ (rs : List α) (i : Nat) (st : Option Nat), (spn b e rs i st).length ≤ rs.length
  | [], _, _ => Nat.le_refl _
  | r :: rs, i, st => by
    unfold spn
    split
    · exact Nat.le_succ_of_le (spn_len b e rs _ _)
    · split
      · split
        · exact Nat.succ_le_succ (spn_len b e rs _ _)
        · exact Nat.le_succ_of_le (spn_len b e rs _ _)
      · exact Nat.le_succ_of_le (spn_len b e rs _ _)
/-- the spans lie in order, apart, each with a begin and an end, no mark between -/
inductive SpOk (b e : α) (rs : List α) : Nat → List (Nat × Nat) → Prop
  | nil (lo : Nat) : SpOk b e rs lo []
  | cons {lo s t : Nat} {l : List (Nat × Nat)} (h1 : lo ≤ s) (h2 : s < t) (h3 : t < rs.length) (hs : rs[s]? = some b) (ht : rs[t]? = some e) (hm : ∀ j r, s < j → j < t → rs[j]? = some r → r ≠ b ∧ r ≠ e) (hl : SpOk b e rs (t + 1) l) : SpOk b e rs lo ((s, t) :: l)
theorem SpOk.lo {b e : α} {rs : List α} : ∀ {l : List (Nat × Nat)} {lo lo' : Nat}, SpOk b e rs lo l → lo' ≤ lo → SpOk b e rs lo' l
  | _, _, _, .nil _, _ => .nil _
  | _, _, _, .cons h1 h2 h3 hs ht hm hl, h => .cons (Nat.le_trans h h1) h2 h3 hs ht hm hl
theorem SpOk.mem {b e : α} {rs : List α} : ∀ {l : List (Nat × Nat)} {lo : Nat}, SpOk b e rs lo l → ∀ {s t : Nat}, (s, t) ∈ l → lo ≤ s ∧ s < t ∧ t < rs.length ∧ rs[s]? = some b ∧ rs[t]? = some e ∧ ∀ j r, s < j → j < t → rs[j]? = some r → r ≠ b ∧ r ≠ e
  | _, _, .nil _, _, _, h => by cases h
  | _, _, .cons (s := s0) (t := t0) h1 h2 h3 hs ht hm hl, s, t, h => by
    rcases List.mem_cons.mp h with h | h
    · cases h
      exact ⟨h1, h2, h3, hs, ht, hm⟩
    · have := hl.mem h
      exact ⟨by omega, this.2⟩
theorem spn_okW {b e : α} (hbe : b ≠ e) {rs : List α} : ∀ (todo : List α) (i : Nat) (st : Option Nat) (lo : Nat), rs.drop i = todo → lo ≤ i → (∀ s, st = some s → lo ≤ s ∧ s < i ∧ rs[s]? = some b ∧ ∀ j r, s < j → j < i → rs[j]? = some r → r ≠ b ∧ r ≠ e) → SpOk b e rs lo (spn b e todo i st)
  | [], i, st, lo, _, _, _ => .nil _
  | r :: todo, i, st, lo, hd, hlo, hst => by
    have hi : i < rs.length := by
      rcases Nat.lt_or_ge i rs.length with h | h
      · exact h
      · rw [List.drop_eq_nil_of_le h] at hd; cases hd
    have hr : rs[i]? = some r := by
      rw [List.drop_eq_getElem_cons hi] at hd
      rw [List.getElem?_eq_getElem hi]
      exact congrArg some (List.cons.inj hd).1
    have hd2 : rs.drop (i + 1) = todo := by
      rw [List.drop_eq_getElem_cons hi] at hd
      exact (List.cons.inj hd).2
    unfold spn
    split
    · rename_i h
      subst h
      refine spn_okW hbe todo (i + 1) _ lo hd2 (by omega) fun s hs => ?_
      cases hs
      exact ⟨hlo, by omega, hr, fun j r h1 h2 => by omega⟩
    · rename_i hb
      split
      · rename_i he
        subst he
        split
        · rename_i s
          obtain ⟨h1, h2, h3, h4⟩ := hst s rfl
          exact .cons h1 h2 hi h3 hr h4 (spn_okW hbe todo (i + 1) none (i + 1) hd2 (Nat.le_refl _) fun s hs => by cases hs)
        · exact spn_okW hbe todo (i + 1) none lo hd2 (by omega) fun s hs => by cases hs
      · rename_i he
        refine spn_okW hbe todo (i + 1) st lo hd2 (by omega) fun s hs => ?_
        obtain ⟨h1, h2, h3, h4⟩ := hst s hs
        refine ⟨h1, by omega, h3, fun j r' j1 j2 hj => ?_⟩
        rcases Nat.lt_or_eq_of_le (Nat.le_of_lt_succ j2) with z | z
        · exact h4 j r' j1 z hj
        · subst z
          rw [hr] at hj
          cases hj
          exact ⟨hb, he⟩
theorem spn_ok {b e : α} (hbe : b ≠ e) (rs : List α) : SpOk b e rs 0 (spn b e rs 0 none) := spn_okW hbe rs 0 none 0 rfl (Nat.le_refl _) fun s hs => by cases hs
/-- the word of row j -/
def inSp (j : Nat) (z : Nat × Nat) : Bool := decide (z.1 ≤ j) && decide (j ≤ z.2)
end
inductive Wd where
  | beg | ins | fin | stray | out
deriving DecidableEq
section
variable {α : Type} [DecidableEq α]
def wdA (b e : α) (sp : List (Nat × Nat)) (r : α) (j : Nat) : Wd := match sp.find? (inSp j) with
  | some z => if j = z.1 then .beg else if j = z.2 then .fin else .ins
  | none => if r = b ∨ r = e then .stray else .out
def wds (b e : α) (rs : List α) : List Wd := rs.mapIdx fun j r => wdA b e (spn b e rs 0 none) r j
theorem wds_len (b e : α) (rs : List α) : (wds b e rs).length = rs.length := by simp [wds]
theorem SpOk.find {b e : α} {rs : List α} : ∀ {l : List (Nat × Nat)} {lo : Nat}, SpOk b e rs lo l → ∀ {s t j : Nat}, (s, t) ∈ l → s ≤ j → j ≤ t → l.find? (inSp j) = some (s, t)
  | _, _, .nil _, _, _, _, h, _, _ => by cases h
  | _, _, .cons (s := s0) (t := t0) h1 h2 h3 hs ht hm hl, s, t, j, h, hj1, hj2 => by
    rcases List.mem_cons.mp h with h | h
    · cases h
      simp [List.find?_cons, inSp, hj1, hj2]
    · have hz := hl.mem h
      have : inSp j (s0, t0) = false := by
        simp only [inSp, Bool.and_eq_false_iff, decide_eq_false_iff_not]
        exact .inr (by omega)
      rw [List.find?_cons, this]
      exact hl.find h hj1 hj2
/-- the words, span by span -/
theorem wdA_nil (b e r : α) (j : Nat) : wdA b e [] r j = if r = b ∨ r = e then .stray else .out := rfl
theorem wdA_app {b e r : α} {sp : List (Nat × Nat)} {s t j : Nat} (h : ∀ z ∈ sp, z.2 < s) : wdA b e (sp ++ [(s, t)]) r j = if s ≤ j ∧ j ≤ t then (if j = s then .beg else if j = t then .fin else .ins) else wdA b e sp r j := by
  unfold wdA
  rw [List.find?_append]
  by_cases hj : s ≤ j ∧ j ≤ t
  · have : sp.find? (inSp j) = none := by
      rw [List.find?_eq_none]
      intro z hz
      have := h z hz
      simp only [inSp, Bool.and_eq_true, decide_eq_true_eq, not_and]
      omega
    rw [this, if_pos hj]
    simp [List.find?_cons, inSp, hj.1, hj.2]
  · rw [if_neg hj]
    have : inSp j (s, t) = false := by
      simp only [inSp, Bool.and_eq_false_iff, decide_eq_false_iff_not]
      omega
    simp only [List.find?_cons, this, List.find?_nil, Option.or_none]
end
/-! the law's way to find the spans: each begin with the next mark -/
section
variable {α : Type} [DecidableEq α]
def fmk (b e : α) : List α → Nat → List Nat
  | [], _ => []
  | r :: rs, i => if r = b ∨ r = e then i :: fmk b e rs (i + 1) else fmk b e rs (i + 1)
/-- a begin at s: its block, if the next mark is an end; rs: all rows -/
def prMk (b e : α) (rs : List α) (s : Nat) (todo : List α) (i : Nat) : List (Nat × Nat) := match fmk b e todo i with
  | [] => []
  | j :: _ => if rs[j]? = some e then [(s, j)] else []
theorem fmk_lt {b e : α} : ∀ {todo : List α} {i j : Nat}, j ∈ fmk b e todo i → i ≤ j ∧ j < i + todo.length
  | [], _, _, h => by cases h
  | r :: todo, i, j, h => by
    unfold fmk at h
    split at h
    · rcases List.mem_cons.mp h with h | h
      · subst h; simp
      · have := fmk_lt h; simp only [List.length_cons]; omega
    · have := fmk_lt h; simp only [List.length_cons]; omega
theorem spn_some {b e : α} (hbe : b ≠ e) {rs : List α} (s : Nat) : ∀ (todo : List α) (i : Nat), rs.drop i = todo → spn b e todo i (some s) = prMk b e rs s todo i ++ spn b e todo i none
  | [], i, _ => rfl
  | r :: todo, i, hd => by
    have hi : i < rs.length := by
      rcases Nat.lt_or_ge i rs.length with h | h
      · exact h
      · rw [List.drop_eq_nil_of_le h] at hd; cases hd
    have hr : rs[i]? = some r := by
      rw [List.drop_eq_getElem_cons hi] at hd
      rw [List.getElem?_eq_getElem hi]
      exact congrArg some (List.cons.inj hd).1
    have hd2 : rs.drop (i + 1) = todo := by
      rw [List.drop_eq_getElem_cons hi] at hd
      exact (List.cons.inj hd).2
    unfold spn prMk fmk
    by_cases h1 : r = b
    · subst h1
      simp [hr, hbe]
    · by_cases h2 : r = e
      · subst h2
        simp [h1, hr]
      · have := spn_some hbe s todo (i + 1) hd2
        unfold prMk at this
        simp only [h1, h2, if_false, or_self]
        exact this
theorem spn_step {b e : α} (hbe : b ≠ e) {rs : List α} {r : α} {todo : List α} {i : Nat} (hd : rs.drop i = r :: todo) : spn b e (r :: todo) i none = (if r = b then prMk b e rs i todo (i + 1) else []) ++ spn b e todo (i + 1) none := by
  have hi : i < rs.length := by
    rcases Nat.lt_or_ge i rs.length with h | h
    · exact h
    · rw [List.drop_eq_nil_of_le h] at hd; cases hd
  have hd2 : rs.drop (i + 1) = todo := by
    rw [List.drop_eq_getElem_cons hi] at hd
    exact (List.cons.inj hd).2
  by_cases h1 : r = b
  · subst h1
    rw [if_pos rfl, ← spn_some hbe i todo (i + 1) hd2]
    simp [spn]
  · by_cases h2 : r = e
    · subst h2
      simp [spn, h1]
    · simp [spn, h1, h2]
/-! strays -/
def ends (l : List (Nat × Nat)) : List Nat := (l.map fun z => [z.1, z.2]).flatten
theorem mem_ends {l : List (Nat × Nat)} {j : Nat} : j ∈ ends l ↔ ∃ s t, (s, t) ∈ l ∧ (j = s ∨ j = t) := by
  unfold ends
  simp only [List.mem_flatten, List.mem_map]
  constructor
  · rintro ⟨_, ⟨⟨s, t⟩, h, rfl⟩, h2⟩
    exact ⟨s, t, h, by simpa using h2⟩
  · rintro ⟨s, t, h, h2⟩
    exact ⟨_, ⟨(s, t), h, rfl⟩, by simpa using h2⟩
theorem stray_iff {b e : α} {rs : List α} {sp : List (Nat × Nat)} (h : SpOk b e rs 0 sp) {j : Nat} {r : α} (hj : rs[j]? = some r) : wdA b e sp r j = .stray ↔ (r = b ∨ r = e) ∧ j ∉ ends sp := by
  unfold wdA
  split
  · rename_i z hz
    obtain ⟨s, t⟩ := z
    have hm := List.mem_of_find?_eq_some hz
    have hp := List.find?_some hz
    simp only [inSp, Bool.and_eq_true, decide_eq_true_eq] at hp
    obtain ⟨_, h2, h3, hs, ht, hi⟩ := h.mem hm
    have hne : ¬ ((if j = s then Wd.beg else if j = t then Wd.fin else Wd.ins) = .stray) := by
      split
      · intro z; cases z
      · split <;> intro z <;> cases z
    constructor
    · exact fun z => absurd z hne
    · rintro ⟨hr, hn⟩
      exfalso
      by_cases e1 : j = s
      · exact hn (mem_ends.mpr ⟨s, t, hm, .inl e1⟩)
      · by_cases e2 : j = t
        · exact hn (mem_ends.mpr ⟨s, t, hm, .inr e2⟩)
        · have := hi j r (by omega) (by omega) hj
          rcases hr with hr | hr
          · exact this.1 hr
          · exact this.2 hr
  · rename_i hz
    have hn : j ∉ ends sp := fun hm => by
      obtain ⟨s, t, h1, h2⟩ := mem_ends.mp hm
      have h3 := h.mem h1
      have := List.find?_eq_none.mp hz (s, t) h1
      simp only [inSp, Bool.and_eq_true, decide_eq_true_eq, not_and] at this
      rcases h2 with h2 | h2 <;> omega
    constructor
    · intro z
      refine ⟨?_, hn⟩
      split at z
      · assumption
      · cases z
    · rintro ⟨hr, _⟩
      rw [if_pos hr]
end
end Y
end
section
set_option Elab.async false
set_option linter.all false
set_option maxRecDepth 100001
set_option maxHeartbeats 4000001
set_option autoImplicit false
set_option pp.maxSteps 600
/-! V8: files looked at; spans, words of rows that are strs. -/
namespace Y
open PySem
local macro_rules
  | `(tactic| decreasing_trivial) => `(tactic| ((conv => whnf); repeat (first | (refine ⟨_, rfl, (by first | assumption | rfl | exact Fz.h | exact FzL.h | exact fz_lst (by assumption) | exact fz_tup (by assumption) | exact fz_lck (by assumption)), ?_⟩; conv => whnf) | (refine ⟨_, rfl, ?_⟩; conv => whnf) | (refine And.intro rfl ?_; conv => whnf) | (refine And.intro (by first | assumption | decide | omega | exact len_lt rfl) ?_; conv => whnf) | (refine And.intro (by first | assumption | rfl | exact Fz.h | exact FzL.h | exact fz_lst (by assumption) | exact fz_tup (by assumption) | exact fz_lck (by assumption)) ?_; conv => whnf) | (refine And.intro (And.intro (by first | assumption | decide | omega | exact len_lt rfl) (by first | assumption | decide | omega | exact len_lt rfl)) ?_; conv => whnf) | (refine And.intro (And.intro (And.intro (by first | assumption | decide | omega | exact len_lt rfl) (by first | assumption | decide | omega | exact len_lt rfl)) (And.intro (by first | assumption | decide | omega | exact len_lt rfl) (by first | assumption | decide | omega | exact len_lt rfl))) ?_; conv => whnf) | (refine And.intro (And.intro (by first | assumption | rfl | exact Fz.h | exact FzL.h | exact fz_lst (by assumption) | exact fz_tup (by assumption) | exact fz_lck (by assumption)) (And.intro (by first | assumption | rfl | exact Fz.h | exact FzL.h | exact fz_lst (by assumption) | exact fz_tup (by assumption) | exact fz_lck (by assumption)) (by first | assumption | rfl | exact Fz.h | exact FzL.h | exact fz_lst (by assumption) | exact fz_tup (by assumption) | exact fz_lck (by assumption)))) ?_; conv => whnf) | (refine And.intro (by first | exact Or.inl (by decide) | exact Or.inr (by decide)) ?_; conv => whnf) | (refine Or.inl (And.intro (by first | assumption | rfl | exact Fz.h | exact FzL.h | exact fz_lst (by assumption) | exact fz_tup (by assumption) | exact fz_lck (by assumption)) ?_); conv => whnf) | (refine ⟨fun _ => ?_, fun z => Bool.noConfusion z⟩; conv => whnf) | (refine ⟨fun z => Bool.noConfusion z, fun _ => ?_⟩; conv => whnf) | (refine frz_go (by first | assumption | rfl | exact Fz.h | exact FzL.h | exact fz_lst (by assumption) | exact fz_tup (by assumption) | exact fz_lck (by assumption)) ?_; conv => whnf) | (refine frzL_go (by first | assumption | rfl | exact Fz.h | exact FzL.h | exact fz_lst (by assumption) | exact fz_tup (by assumption) | exact fz_lck (by assumption)) ?_; conv => whnf) | (refine lst_go (by first | assumption | rfl | exact Fz.h | exact FzL.h | exact fz_lst (by assumption) | exact fz_tup (by assumption) | exact fz_lck (by assumption)) ?_; conv => whnf) | (refine bool_go (by first | assumption | rfl | exact Fz.h | exact FzL.h | exact fz_lst (by assumption) | exact fz_tup (by assumption) | exact fz_lck (by assumption)) ?_; conv => whnf) | (intro p0 z; rw [PV.fz_frz _ (by first | assumption | rfl | exact Fz.h | exact FzL.h | exact fz_lst (by assumption) | exact fz_tup (by assumption) | exact fz_lck (by assumption))] at z; subst z; conv => whnf))))
local macro_rules
  | `(tactic| decreasing_trivial_pre_omega) => `(tactic| ((conv => whnf); repeat (first | (refine And.intro rfl ?_; conv => whnf) | (refine And.intro (by first | assumption | decide | omega | exact len_lt rfl) ?_; conv => whnf) | (refine And.intro (by first | assumption | rfl | exact Fz.h | exact FzL.h | exact fz_lst (by assumption) | exact fz_tup (by assumption) | exact fz_lck (by assumption)) ?_; conv => whnf) | (refine And.intro (And.intro (by first | assumption | decide | omega | exact len_lt rfl) (by first | assumption | decide | omega | exact len_lt rfl)) ?_; conv => whnf) | (refine And.intro (And.intro (And.intro (by first | assumption | decide | omega | exact len_lt rfl) (by first | assumption | decide | omega | exact len_lt rfl)) (And.intro (by first | assumption | decide | omega | exact len_lt rfl) (by first | assumption | decide | omega | exact len_lt rfl))) ?_; conv => whnf) | (refine And.intro (And.intro (by first | assumption | rfl | exact Fz.h | exact FzL.h | exact fz_lst (by assumption) | exact fz_tup (by assumption) | exact fz_lck (by assumption)) (And.intro (by first | assumption | rfl | exact Fz.h | exact FzL.h | exact fz_lst (by assumption) | exact fz_tup (by assumption) | exact fz_lck (by assumption)) (by first | assumption | rfl | exact Fz.h | exact FzL.h | exact fz_lst (by assumption) | exact fz_tup (by assumption) | exact fz_lck (by assumption)))) ?_; conv => whnf) | (refine And.intro (by first | exact Or.inl (by decide) | exact Or.inr (by decide)) ?_; conv => whnf) | (refine Or.inl (And.intro (by first | assumption | rfl | exact Fz.h | exact FzL.h | exact fz_lst (by assumption) | exact fz_tup (by assumption) | exact fz_lck (by assumption)) ?_); conv => whnf) | (refine ⟨fun _ => ?_, fun z => Bool.noConfusion z⟩; conv => whnf) | (refine ⟨fun z => Bool.noConfusion z, fun _ => ?_⟩; conv => whnf) | (refine frz_go (by first | assumption | rfl | exact Fz.h | exact FzL.h | exact fz_lst (by assumption) | exact fz_tup (by assumption) | exact fz_lck (by assumption)) ?_; conv => whnf) | (refine frzL_go (by first | assumption | rfl | exact Fz.h | exact FzL.h | exact fz_lst (by assumption) | exact fz_tup (by assumption) | exact fz_lck (by assumption)) ?_; conv => whnf) | (refine lst_go (by first | assumption | rfl | exact Fz.h | exact FzL.h | exact fz_lst (by assumption) | exact fz_tup (by assumption) | exact fz_lck (by assumption)) ?_; conv => whnf) | (refine bool_go (by first | assumption | rfl | exact Fz.h | exact FzL.h | exact fz_lst (by assumption) | exact fz_tup (by assumption) | exact fz_lck (by assumption)) ?_; conv => whnf) | (intro p0 z; rw [PV.fz_frz _ (by first | assumption | rfl | exact Fz.h | exact FzL.h | exact fz_lst (by assumption) | exact fz_tup (by assumption) | exact fz_lck (by assumption))] at z; subst z; conv => whnf))))
/-- an object that may stand in a list -/
def Itm (p : PV) : Prop := (∃ s, p = .str s ∧ s.length ≤ 10000) ∨ NotStr p
def lnP : PV → Bool
  | .str s => LnOk s
  | _ => false
theorem lnOk_le {s : Str} (h : LnOk s = true) : s.length ≤ 80 := by
  simp only [LnOk, Bool.and_eq_true, decide_eq_true_eq] at h
  exact h.1
theorem itm_str {s : Str} (h : LnOk s = true) : Itm (.str s) := .inl ⟨s, rfl, Nat.le_trans (lnOk_le h) (by decide)⟩
theorem itm_fz {p : PV} (h : Itm p) : p.fz = true := by
  rcases h with ⟨s, rfl, _⟩ | rfl | ⟨b, rfl⟩ | ⟨i, rfl⟩ | ⟨xs, rfl, hf⟩ | ⟨xs, rfl, hf⟩ <;> first
    | rfl
    | simp [PV.fz, hf]
theorem itm_fzL : ∀ {xs : List PV}, (∀ x ∈ xs, Itm x) → PV.fzL xs = true
  | [], _ => rfl
  | x :: xs, h => by simp [PV.fzL, itm_fz (h x List.mem_cons_self), itm_fzL fun y hy => h y (List.mem_cons_of_mem _ hy)]
abbrev T_IsL (T : Tb) : Prop := T ("is_line" : Str) = some ⟨2, 1, [true], islB⟩
theorem isl_itm {T : Tb} {fuel n : Nat} (hT : T_IsL T) {p : PV} (hp : Itm p) {Q : PV → Fr → Prop} {E : PX → Fr → Prop} (h : Q (.bl (lnP p)) [some p]) : zC (callN T fuel (n + 1)) ("is_line" : Str) [p] Q E := by
  rcases hp with ⟨s, rfl, hs⟩ | hp
  · exact isl_str hT hs h
  · have e : lnP p = false := by rcases hp with rfl | ⟨b, rfl⟩ | ⟨i, rfl⟩ | ⟨xs, rfl, _⟩ | ⟨xs, rfl, _⟩ <;> rfl
    rw [e] at h
    exact isl_no hT hp h
/-! look_file -/
abbrev bfX (rel : List (Str × Bool)) (ty : List (String × Bool)) : XD := ⟨"BadFile", ["index"], rel, ty⟩
def lookB (rel : List (Str × Bool)) (ty : List (String × Bool)) : List IS := [
  .ife (.op .not [.op .isi [.loc 0, .cst (.ty "list")]]) [.rai (bfX rel ty) [.op .neg [.cst (.int 1)]]] [],
  .fors (.tp [.nm 1, .nm 2]) (.enm (.loc 0)) [.ife (.op .not [.call "is_line" [true] [.loc 2]]) [.rai (bfX rel ty) [.loc 1]] []],
  .ret (.op .list [.loc 0])]
section
variable {T : Tb} {fuel n : Nat} {rel : List (Str × Bool)} {ty : List (String × Bool)}
abbrev T_Look (T : Tb) (rel : List (Str × Bool)) (ty : List (String × Bool)) : Prop := T ("look_file" : Str) = some ⟨3, 1, [true], lookB rel ty⟩
theorem look_gen (hI : T_IsL T) (hT : T_Look T rel ty) {xs : List PV} (hx : ∀ x ∈ xs, Itm x) {o : Bool} {Q : PV → Fr → Prop} {E : PX → Fr → Prop} (h1 : (∀ x ∈ xs, lnP x = true) → Q (.lst true xs) [some (.lst false xs)])
    (h2 : ∀ (a : List PV) (p : PV) (r : List PV), xs = a ++ p :: r → (∀ x ∈ a, lnP x = true) → lnP p = false → E ⟨bfX rel ty, [("index", .int a.length)]⟩ [some (.lst false xs)]) : zC (callN T fuel (n + 2)) ("look_file" : Str) [.lst o xs] Q E := by
  have hf : PV.fzL xs = true := itm_fzL hx
  cases o
  all_goals
    refine run_ok hT rfl ?_
    decreasing_trivial
    refine zF_in (fun rest ρ => ∃ (a todo : List PV) (z1 z2 : Option PV), xs = a ++ todo ∧ rest = enmN (a.length : Int) todo ∧ (∀ x ∈ a, lnP x = true) ∧ ρ = [some (.lst false xs), z1, z2]) ?_ ?_ ?_
    · exact ⟨[], xs, _, _, rfl, rfl, by simp, rfl⟩
    · rintro _ ⟨a, todo, z1, z2, e1, e2, e3, rfl⟩
      cases todo with
      | cons p r => cases e2
      | nil =>
        rw [List.append_nil] at e1
        subst e1
        decreasing_trivial
        exact h1 e3
    · rintro y r _ ⟨a, todo, z1, z2, e1, e2, e3, rfl⟩
      cases todo with
      | nil => cases e2
      | cons p todo =>
        obtain ⟨rfl, rfl⟩ := List.cons.inj (show y :: r = .tup [.int a.length, p] :: enmN ((a.length : Int) + 1) todo from e2)
        have hp := hx p (by rw [e1]; simp)
        have hp2 := hp
        have hE := h2 a p todo e1 e3
        have hI2 : lnP p = true → ∃ (a' todo' : List PV) (z1 z2 : Option PV), xs = a' ++ todo' ∧ enmN ((a.length : Int) + 1) todo = enmN (a'.length : Int) todo' ∧ (∀ x ∈ a', lnP x = true) ∧ [some (.lst false xs), some (.int a.length), some p] = [some (.lst false xs), z1, z2] := fun hl => by
          refine ⟨a ++ [p], todo, _, _, by simpa using e1, by rw [List.length_append]; rfl, fun x hx' => ?_, rfl⟩
          rcases List.mem_append.mp hx' with z | z
          · exact e3 x z
          · rw [List.mem_singleton.mp z]
            exact hl
        refine ⟨[some (.lst false xs), some (.int a.length), some p], rfl, ?_⟩
        rcases hp with ⟨s, rfl, hs⟩ | rfl | ⟨b, rfl⟩ | ⟨i, rfl⟩ | ⟨xs, rfl, hf⟩ | ⟨xs, rfl, hf⟩
        all_goals
          decreasing_trivial
          refine isl_itm hI hp2 ?_
          conv => whnf
          refine ⟨fun hk => ?_, fun hk => ?_⟩
          · decreasing_trivial
            exact hE (by simpa using hk)
          · decreasing_trivial
            exact hI2 (by simpa using hk)
theorem lnP_strs {ls : List Str} (h : ∀ s ∈ ls, LnOk s = true) : ∀ x ∈ ls.map PV.str, lnP x = true := fun x hx => by
  obtain ⟨s, hs, rfl⟩ := List.mem_map.mp hx
  exact h s hs
theorem itm_strs {ls : List Str} (h : ∀ s ∈ ls, LnOk s = true) : ∀ x ∈ ls.map PV.str, Itm x := fun x hx => by
  obtain ⟨s, hs, rfl⟩ := List.mem_map.mp hx
  exact itm_str (h s hs)
/-- a file -/
theorem look_ok (hI : T_IsL T) (hT : T_Look T rel ty) {ls : List Str} (hl : ∀ s ∈ ls, LnOk s = true) {o : Bool} {Q : PV → Fr → Prop} {E : PX → Fr → Prop} (h1 : Q (.lst true (ls.map .str)) [some (.lst false (ls.map .str))]) : zC (callN T fuel (n + 2)) ("look_file" : Str) [.lst o (ls.map .str)] Q E := by
  refine look_gen hI hT (itm_strs hl) (fun _ => h1) fun a p r e _ hp => ?_
  have := lnP_strs hl p (by rw [e]; simp)
  rw [this] at hp
  cases hp
/-- a list with an object that is no line -/
theorem look_bad (hI : T_IsL T) (hT : T_Look T rel ty) {a : List Str} {p : PV} {r : List PV} (ha : ∀ s ∈ a, LnOk s = true) (hp : Itm p) (hn : lnP p = false) (hr : ∀ x ∈ r, Itm x) {o : Bool} {Q : PV → Fr → Prop} {E : PX → Fr → Prop} (h1 : E ⟨bfX rel ty, [("index", .int a.length)]⟩ [some (.lst false (a.map .str ++ p :: r))]) : zC (callN T fuel (n + 2)) ("look_file" : Str) [.lst o (a.map .str ++ p :: r)] Q E := by
  refine look_gen hI hT (fun x hx => ?_) (fun hall => ?_) fun a' p' r' e ha' hp' => ?_
  · rcases List.mem_append.mp hx with z | z
    · exact itm_strs ha x z
    · rcases List.mem_cons.mp z with rfl | z
      · exact hp
      · exact hr x z
  · have := hall p (by simp)
    rw [this] at hn
    cases hn
  · have hl : a.length = a'.length := by
      have hA := lnP_strs ha
      rcases Nat.lt_trichotomy a.length a'.length with z | z | z
      · have h3 : (a' ++ p' :: r')[a.length]? = some p := by rw [← e, List.getElem?_append_right (by simp)]; simp
        rw [List.getElem?_append_left z] at h3
        have := ha' p (List.mem_of_getElem? h3)
        rw [this] at hn
        cases hn
      · exact z
      · have h3 : (a.map PV.str ++ p :: r)[a'.length]? = some p' := by rw [e, List.getElem?_append_right (by simp)]; simp
        rw [List.getElem?_append_left (by simpa using z)] at h3
        have := hA p' (List.mem_of_getElem? h3)
        rw [this] at hp'
        cases hp'
    rw [hl] at h1
    exact h1
theorem look_tup (hT : T_Look T rel ty) {xs : List PV} (hf : PV.fzL xs = true) {Q : PV → Fr → Prop} {E : PX → Fr → Prop} (h : E ⟨bfX rel ty, [("index", .int (-1))]⟩ [some (.tup xs)]) : zC (callN T fuel (n + 1)) ("look_file" : Str) [.tup xs] Q E := by
  refine run_ok hT rfl ?_
  conv => whnf
  refine And.intro rfl ?_
  rw [show isiT "tuple" "list" = false from by decide +kernel]
  decreasing_trivial
  exact h
end
/-! spans -/
abbrev spP (z : Nat × Nat) : PV := .tup [.int z.1, .int z.2]
theorem fzL_spP (l : List (Nat × Nat)) : PV.fzL (l.map spP) = true := fzL_of (fun _ => rfl) l
def spansB : List IS := [
  .set 3 (.lst []),
  .set 4 (.cst .non),
  .fors (.tp [.nm 5, .nm 6]) (.enm (.loc 0)) [.ife (.op (.cmp .Eq) [.loc 6, .loc 1]) [.set 4 (.loc 5)] [.ife (.op (.cmp .Eq) [.loc 6, .loc 2]) [.ife (.op (.cmp .IsNot) [.loc 4, .cst .non]) [.app 3 (.tup [.loc 4, .loc 5])] [], .set 4 (.cst .non)] []]],
  .ret (.mov 3)]
abbrev stP : Option Nat → PV
  | none => .non
  | some s => .int s
section
variable {T : Tb} {fuel n : Nat}
abbrev T_Spans (T : Tb) : Prop := T ("block_spans" : Str) = some ⟨7, 3, [true, true, true], spansB⟩
theorem spans_ok (hT : T_Spans T) {rs : List Str} {b e : Str} (hl : rs.length ≤ 10000) {Q : PV → Fr → Prop} {E : PX → Fr → Prop} (h : Q (.lst true ((spn b e rs 0 none).map spP)) [some (.lst false (rs.map .str)), some (.str b), some (.str e)]) :
    zC (callN T fuel (n + 1)) ("block_spans" : Str) [.lst false (rs.map .str), .str b, .str e] Q E := by
  have hf : PV.fzL (rs.map .str) = true := fzL_strs _
  refine run_ok hT rfl ?_
  decreasing_trivial
  refine zF_in (fun rest ρ => ∃ (todo : List Str) (i : Nat) (st : Option Nat) (sp : List (Nat × Nat)) (z5 z6 : Option PV), rest = enmN (i : Int) (todo.map .str) ∧ sp ++ spn b e todo i st = spn b e rs 0 none ∧ ρ = [some (.lst false (rs.map .str)), some (.str b), some (.str e), some (.lst true (sp.map spP)), some (stP st), z5, z6]) ?_ ?_ ?_
  · exact ⟨rs, 0, none, [], _, _, rfl, rfl, rfl⟩
  · rintro _ ⟨todo, i, st, sp, z5, z6, e1, e2, rfl⟩
    cases todo with
    | cons p r => cases e1
    | nil =>
      simp only [spn, List.append_nil] at e2
      subst e2
      decreasing_trivial
      exact h
  · rintro y r _ ⟨todo, i, st, sp, z5, z6, e1, e2, rfl⟩
    cases todo with
    | nil => cases e1
    | cons p todo =>
      obtain ⟨rfl, rfl⟩ := List.cons.inj (show y :: r = .tup [.int i, .str p] :: enmN ((i + 1 : Nat) : Int) (todo.map .str) from e1)
      have hsz : (sp.map spP).length < sizeLine := by
        have := spn_len b e rs 0 none
        rw [← e2, List.length_append] at this
        rw [List.length_map]
        exact small_lt (show sp.length ≤ 10000 by omega)
      refine ⟨_, rfl, ?_⟩
      decreasing_trivial
      refine ⟨fun hk => ?_, fun hk => ?_⟩
      · decreasing_trivial
        refine ⟨todo, i + 1, some i, sp, _, _, rfl, ?_, rfl⟩
        rw [← e2]
        simp only [spn, if_pos (of_decide_eq_true hk)]
      · decreasing_trivial
        refine ⟨fun hk2 => ?_, fun hk2 => ?_⟩
        · cases st with
          | none =>
            decreasing_trivial
            refine ⟨todo, i + 1, none, sp, _, _, rfl, ?_, rfl⟩
            rw [← e2]
            simp only [spn, if_neg (of_decide_eq_false hk), if_pos (of_decide_eq_true hk2)]
          | some s =>
            decreasing_trivial
            refine ⟨todo, i + 1, none, sp ++ [(s, i)], _, _, rfl, ?_, by rw [List.map_append]; rfl⟩
            rw [← e2]
            simp only [spn, if_neg (of_decide_eq_false hk), if_pos (of_decide_eq_true hk2), List.append_assoc, List.singleton_append]
        · decreasing_trivial
          refine ⟨todo, i + 1, st, sp, _, _, rfl, ?_, rfl⟩
          rw [← e2]
          simp only [spn, if_neg (of_decide_eq_false hk), if_neg (of_decide_eq_false hk2)]
end
/-! words -/
def Wd.s : Wd → Str
  | .beg => "begin"
  | .ins => "in"
  | .fin => "end"
  | .stray => "stray"
  | .out => "out"
abbrev Wd.p (w : Wd) : PV := .str w.s
theorem fzL_wd (l : List Wd) : PV.fzL (l.map Wd.p) = true := fzL_of (fun _ => rfl) l
def wordsB : List IS := [
  .set 3 (.comp (.ite (.or (.op (.cmp .Eq) [.loc 7, .loc 1]) (.op (.cmp .Eq) [.loc 7, .loc 2])) (.cst (.str "stray")) (.cst (.str "out"))) (.nm 7) (.it (.loc 0)) [] [7]),
  .fors (.tp [.nm 4, .nm 5]) (.it (.call "block_spans" [true, true, true] [.loc 0, .loc 1, .loc 2])) [.sub 3 (.loc 4) (.cst (.str "begin")), .sub 3 (.loc 5) (.cst (.str "end")), .fors (.nm 6) (.rng [.op (.bin .Add) [.loc 4, .cst (.int 1)], .loc 5]) [.sub 3 (.loc 6) (.cst (.str "in"))]],
  .ret (.mov 3)]
theorem mapIdx_set {α β : Type} (f : Nat → α → β) : ∀ (l : List α) (i : Nat) (v : β), (l.mapIdx f).set i v = l.mapIdx fun j r => if j = i then v else f j r := fun l i v => by
  apply List.ext_getElem?
  intro j
  rw [List.getElem?_set]
  simp only [List.length_mapIdx, List.getElem?_mapIdx]
  by_cases h : i = j
  · subst h
    rw [if_pos rfl]
    by_cases hl : i < l.length
    · rw [if_pos hl, List.getElem?_eq_getElem hl]
      simp
    · rw [if_neg hl, List.getElem?_eq_none (by omega)]
      rfl
  · rw [if_neg h]
    simp only [show ¬ j = i from fun z => h z.symm, if_false]
theorem mapIdx_congr {α β : Type} {f g : Nat → α → β} {l : List α} (h : ∀ j r, l[j]? = some r → f j r = g j r) : l.mapIdx f = l.mapIdx g := by
  apply List.ext_getElem?
  intro j
  rw [List.getElem?_mapIdx, List.getElem?_mapIdx]
  cases e : l[j]? with
  | none => rfl
  | some r => simp only [Option.map_some, h j r e]
theorem mapIdx_step {α β : Type} {f : Nat → α → β} (done : List α) (r : α) : (done ++ [r]).mapIdx f = done.mapIdx f ++ [f done.length r] := by
  rw [List.mapIdx_append]
  simp
section
variable {T : Tb} {fuel n : Nat}
abbrev T_Words (T : Tb) : Prop := T ("row_words" : Str) = some ⟨8, 3, [true, true, true], wordsB⟩
theorem words_ok (hS : T_Spans T) (hT : T_Words T) {rs : List Str} {b e : Str} (hbe : b ≠ e) (hl : rs.length ≤ 10000) {Q : PV → Fr → Prop} {E : PX → Fr → Prop} (h : Q (.lst true ((wds b e rs).map Wd.p)) [some (.lst false (rs.map .str)), some (.str b), some (.str e)]) :
    zC (callN T fuel (n + 2)) ("row_words" : Str) [.lst false (rs.map .str), .str b, .str e] Q E := by
  have hf : PV.fzL (rs.map .str) = true := fzL_strs _
  refine run_ok hT rfl ?_
  decreasing_trivial
  refine zK_in (fun rest acc ρ => ∃ (done todo : List Str), rs = done ++ todo ∧ rest = todo.map .str ∧ acc = (done.mapIdx fun j r => wdA b e [] r j).map Wd.p ∧ ρ = [some (.lst false (rs.map .str)), some (.str b), some (.str e), none, none, none, none, none]) ?_ ?_ ?_
  · exact ⟨[], rs, rfl, rfl, rfl, rfl⟩
  · rintro _ _ ⟨done, todo, e1, e2, rfl, rfl⟩
    cases todo with
    | cons p r => cases e2
    | nil =>
      rw [List.append_nil] at e1
      subst e1
      decreasing_trivial
      have hfs : PV.fzL ((spn b e rs 0 none).map spP) = true := fzL_spP _
      refine spans_ok hS hl ?_
      decreasing_trivial
      refine zF_in (fun rest ρ => ∃ (done todo : List (Nat × Nat)) (z4 z5 z6 : Option PV), spn b e rs 0 none = done ++ todo ∧ rest = todo.map spP ∧ ρ = [some (.lst false (rs.map .str)), some (.str b), some (.str e), some (.lst true ((rs.mapIdx fun j r => wdA b e done r j).map Wd.p)), z4, z5, z6, none]) ?_ ?_ ?_
      · exact ⟨[], _, _, _, _, rfl, rfl, rfl⟩
      · rintro _ ⟨done, todo, z4, z5, z6, e1, e2, rfl⟩
        cases todo with
        | cons p r => cases e2
        | nil =>
          rw [List.append_nil] at e1
          decreasing_trivial
          rw [← e1]
          exact h
      · rintro y r _ ⟨done, todo, z4, z5, z6, e1, e2, rfl⟩
        cases todo with
        | nil => cases e2
        | cons z todo =>
          obtain ⟨s, t⟩ := z
          obtain ⟨rfl, rfl⟩ := List.cons.inj (show y :: r = .tup [.int s, .int t] :: todo.map spP from e2)
          have so := spn_ok hbe rs
          have hm := so.mem (s := s) (t := t) (by rw [e1]; simp)
          have hd : ∀ z ∈ done, z.2 < s := by
            rw [e1] at so
            have : ∀ (l : List (Nat × Nat)) (lo : Nat), SpOk b e rs lo (l ++ (s, t) :: todo) → ∀ z ∈ l, z.2 < s := fun l => by
              induction l with
              | nil => intro lo _ z hz; cases hz
              | cons w l ih =>
                intro lo h z hz
                cases h with
                | cons h1 h2 h3 hs ht hm hl =>
                  rcases List.mem_cons.mp hz with rfl | hz
                  · have := hl.mem (s := s) (t := t) (by simp)
                    dsimp only
                    omega
                  · exact ih _ hl z hz
            exact this done 0 so
          have hlen : ∀ f : Nat → Str → Wd, (((rs.mapIdx f).map Wd.p).length : Int) = rs.length := fun f => by simp
          have hx : ∀ (f : Nat → Str → Wd) {i : Nat}, i < rs.length → L2.ixN ((rs.mapIdx f).map Wd.p).length (i : Int) = some i := fun f i hi => by
            have := ixN_in (n := ((rs.mapIdx f).map Wd.p).length) (i := (i : Int)) (by omega) (by rw [hlen]; omega)
            rwa [Int.toNat_natCast] at this
          have hset : ∀ (f : Nat → Str → Wd) (i : Nat) (w : Wd), ((rs.mapIdx f).map Wd.p).set i w.p = (rs.mapIdx fun j r => if j = i then w else f j r).map Wd.p := fun f i w => by
            rw [← mapIdx_set, List.map_set]
          refine ⟨_, rfl, ?_⟩
          conv => whnf
          refine ⟨_, hx _ (by omega), ?_⟩
          rw [show PV.str "begin" = Wd.p .beg from rfl, hset]
          conv => whnf
          refine ⟨_, hx _ hm.2.2.1, ?_⟩
          rw [show PV.str "end" = Wd.p .fin from rfl, hset]
          decreasing_trivial
          refine zF_in (fun rest ρ => ∃ (i : Nat) (z6 : Option PV), s < i ∧ i ≤ t ∧ rest = rngI (i : Int) (t - i) ∧ ρ = [some (.lst false (rs.map .str)), some (.str b), some (.str e), some (.lst true ((rs.mapIdx fun j r => if s < j ∧ j < i then .ins else if j = t then .fin else if j = s then .beg else wdA b e done r j).map Wd.p)), some (.int s), some (.int t), z6, none]) ?_ ?_ ?_
          · refine ⟨s + 1, z6, by omega, by omega, ?_, ?_⟩
            · rw [show ((t : Int) - ((s : Int) + 1)).toNat = t - (s + 1) from by omega]
              rfl
            · have e4 : (rs.mapIdx fun j r => if j = t then Wd.fin else if j = s then .beg else wdA b e done r j) = rs.mapIdx fun j r => if s < j ∧ j < s + 1 then Wd.ins else if j = t then .fin else if j = s then .beg else wdA b e done r j := mapIdx_congr fun j r _ => by rw [if_neg (show ¬ (s < j ∧ j < s + 1) by omega)]
              rw [e4]
          · rintro _ ⟨i, z6, h1, h2, e3, rfl⟩
            have hit : i = t := by
              rcases Nat.lt_or_ge i t with z | z
              · rw [show t - i = (t - i - 1) + 1 from by omega] at e3
                cases e3
              · omega
            subst hit
            decreasing_trivial
            refine ⟨done ++ [(s, i)], todo, some (.int s), some (.int i), z6, by rw [e1, List.append_assoc]; rfl, rfl, ?_⟩
            refine congrArg (fun l => [some (PV.lst false (rs.map .str)), some (.str b), some (.str e), some (.lst true (List.map Wd.p l)), some (.int s), some (.int i), z6, none]) (mapIdx_congr fun j r _ => ?_)
            rw [wdA_app hd]
            split
            · rw [if_pos (by omega), if_neg (by omega), if_neg (by omega)]
            · split
              · rw [if_pos (by omega), if_neg (by omega)]
              · split
                · rw [if_pos (by omega)]
                · rw [if_neg (by omega)]
          · rintro x r _ ⟨i, z6, h1, h2, e3, rfl⟩
            have hit : i < t := by
              rcases Nat.lt_or_ge i t with z | z
              · exact z
              · rw [show t - i = 0 from by omega] at e3
                cases e3
            rw [show t - i = (t - (i + 1)) + 1 from by omega] at e3
            obtain ⟨rfl, rfl⟩ := List.cons.inj (show x :: r = .int (i : Int) :: rngI ((i + 1 : Nat) : Int) (t - (i + 1)) from e3)
            refine ⟨_, rfl, ?_⟩
            conv => whnf
            refine ⟨_, hx _ (by omega), ?_⟩
            rw [show PV.str "in" = Wd.p .ins from rfl, hset]
            conv => whnf
            refine ⟨i + 1, some (.int i), by omega, by omega, rfl, ?_⟩
            refine congrArg (fun l => [some (PV.lst false (rs.map .str)), some (.str b), some (.str e), some (.lst true (List.map Wd.p l)), some (.int s), some (.int t), some (.int i), none]) (mapIdx_congr fun j r _ => ?_)
            by_cases z : j = i
            · rw [if_pos z, if_pos (by omega)]
            · rw [if_neg z]
              by_cases z2 : s < j ∧ j < i
              · rw [if_pos z2, if_pos (by omega)]
              · rw [if_neg z2, if_neg (show ¬ (s < j ∧ j < i + 1) by omega)]
  · rintro y r acc _ ⟨done, todo, e1, e2, rfl, rfl⟩
    cases todo with
    | nil => cases e2
    | cons p todo =>
      obtain ⟨rfl, rfl⟩ := List.cons.inj (show y :: r = .str p :: todo.map .str from e2)
      have hsz : ((done.mapIdx fun j r => wdA b e [] r j).map Wd.p).length < sizeLine := by
        have : rs.length = done.length + (todo.length + 1) := by rw [e1]; simp
        simp only [List.length_map, List.length_mapIdx]
        exact small_lt (show done.length ≤ 10000 by omega)
      have hnx : ∀ w : Wd, (if p = b ∨ p = e then Wd.stray else .out) = w → ∃ (done' todo' : List Str), rs = done' ++ todo' ∧ todo.map PV.str = todo'.map .str ∧ (done.mapIdx fun j r => wdA b e [] r j).map Wd.p ++ [w.p] = (done'.mapIdx fun j r => wdA b e [] r j).map Wd.p ∧ [some (PV.lst false (rs.map .str)), some (.str b), some (.str e), none, none, none, none, none] = [some (.lst false (rs.map .str)), some (.str b), some (.str e), none, none, none, none, none] := fun w hw => by
        refine ⟨done ++ [p], todo, by simpa using e1, rfl, ?_, rfl⟩
        rw [mapIdx_step, List.map_append, wdA_nil, hw]
        rfl
      refine ⟨_, rfl, ?_⟩
      decreasing_trivial
      refine ⟨fun hk => ?_, fun hk => ?_⟩
      · decreasing_trivial
        exact (hnx .stray (by rw [if_pos (.inl (of_decide_eq_true hk))]))
      · decreasing_trivial
        refine ⟨fun hk2 => ?_, fun hk2 => ?_⟩
        · decreasing_trivial
          exact (hnx .stray (by rw [if_pos (.inr (of_decide_eq_true hk2))]))
        · decreasing_trivial
          exact (hnx .out (by rw [if_neg (by rintro (z | z); exact of_decide_eq_false hk z; exact of_decide_eq_false hk2 z)]))
end
end Y
end
section
set_option Elab.async false
set_option linter.all false
set_option maxRecDepth 100001
set_option maxHeartbeats 4000001
set_option autoImplicit false
set_option pp.maxSteps 600
/-! V9: comprehensions that change nothing; loops that fold; Marks. -/
namespace Y
open PySem
local macro_rules
  | `(tactic| decreasing_trivial) => `(tactic| ((conv => whnf); repeat (first | (refine ⟨_, rfl, (by first | assumption | rfl | exact Fz.h | exact FzL.h | exact fz_lst (by assumption) | exact fz_tup (by assumption) | exact fz_lck (by assumption)), ?_⟩; conv => whnf) | (refine ⟨_, rfl, ?_⟩; conv => whnf) | (refine And.intro rfl ?_; conv => whnf) | (refine And.intro (by first | assumption | decide | omega | exact len_lt rfl) ?_; conv => whnf) | (refine And.intro (by first | assumption | rfl | exact Fz.h | exact FzL.h | exact fz_lst (by assumption) | exact fz_tup (by assumption) | exact fz_lck (by assumption)) ?_; conv => whnf) | (refine And.intro (And.intro (by first | assumption | decide | omega | exact len_lt rfl) (by first | assumption | decide | omega | exact len_lt rfl)) ?_; conv => whnf) | (refine And.intro (And.intro (And.intro (by first | assumption | decide | omega | exact len_lt rfl) (by first | assumption | decide | omega | exact len_lt rfl)) (And.intro (by first | assumption | decide | omega | exact len_lt rfl) (by first | assumption | decide | omega | exact len_lt rfl))) ?_; conv => whnf) | (refine And.intro (And.intro (by first | assumption | rfl | exact Fz.h | exact FzL.h | exact fz_lst (by assumption) | exact fz_tup (by assumption) | exact fz_lck (by assumption)) (And.intro (by first | assumption | rfl | exact Fz.h | exact FzL.h | exact fz_lst (by assumption) | exact fz_tup (by assumption) | exact fz_lck (by assumption)) (by first | assumption | rfl | exact Fz.h | exact FzL.h | exact fz_lst (by assumption) | exact fz_tup (by assumption) | exact fz_lck (by assumption)))) ?_; conv => whnf) | (refine And.intro (by first | exact Or.inl (by decide) | exact Or.inr (by decide)) ?_; conv => whnf) | (refine Or.inl (And.intro (by first | assumption | rfl | exact Fz.h | exact FzL.h | exact fz_lst (by assumption) | exact fz_tup (by assumption) | exact fz_lck (by assumption)) ?_); conv => whnf) | (refine ⟨fun _ => ?_, fun z => Bool.noConfusion z⟩; conv => whnf) | (refine ⟨fun z => Bool.noConfusion z, fun _ => ?_⟩; conv => whnf) | (refine frz_go (by first | assumption | rfl | exact Fz.h | exact FzL.h | exact fz_lst (by assumption) | exact fz_tup (by assumption) | exact fz_lck (by assumption)) ?_; conv => whnf) | (refine frzL_go (by first | assumption | rfl | exact Fz.h | exact FzL.h | exact fz_lst (by assumption) | exact fz_tup (by assumption) | exact fz_lck (by assumption)) ?_; conv => whnf) | (refine lst_go (by first | assumption | rfl | exact Fz.h | exact FzL.h | exact fz_lst (by assumption) | exact fz_tup (by assumption) | exact fz_lck (by assumption)) ?_; conv => whnf) | (refine bool_go (by first | assumption | rfl | exact Fz.h | exact FzL.h | exact fz_lst (by assumption) | exact fz_tup (by assumption) | exact fz_lck (by assumption)) ?_; conv => whnf) | (intro p0 z; rw [PV.fz_frz _ (by first | assumption | rfl | exact Fz.h | exact FzL.h | exact fz_lst (by assumption) | exact fz_tup (by assumption) | exact fz_lck (by assumption))] at z; subst z; conv => whnf))))
local macro_rules
  | `(tactic| decreasing_trivial_pre_omega) => `(tactic| ((conv => whnf); repeat (first | (refine And.intro rfl ?_; conv => whnf) | (refine And.intro (by first | assumption | decide | omega | exact len_lt rfl) ?_; conv => whnf) | (refine And.intro (by first | assumption | rfl | exact Fz.h | exact FzL.h | exact fz_lst (by assumption) | exact fz_tup (by assumption) | exact fz_lck (by assumption)) ?_; conv => whnf) | (refine And.intro (And.intro (by first | assumption | decide | omega | exact len_lt rfl) (by first | assumption | decide | omega | exact len_lt rfl)) ?_; conv => whnf) | (refine And.intro (And.intro (And.intro (by first | assumption | decide | omega | exact len_lt rfl) (by first | assumption | decide | omega | exact len_lt rfl)) (And.intro (by first | assumption | decide | omega | exact len_lt rfl) (by first | assumption | decide | omega | exact len_lt rfl))) ?_; conv => whnf) | (refine And.intro (And.intro (by first | assumption | rfl | exact Fz.h | exact FzL.h | exact fz_lst (by assumption) | exact fz_tup (by assumption) | exact fz_lck (by assumption)) (And.intro (by first | assumption | rfl | exact Fz.h | exact FzL.h | exact fz_lst (by assumption) | exact fz_tup (by assumption) | exact fz_lck (by assumption)) (by first | assumption | rfl | exact Fz.h | exact FzL.h | exact fz_lst (by assumption) | exact fz_tup (by assumption) | exact fz_lck (by assumption)))) ?_; conv => whnf) | (refine And.intro (by first | exact Or.inl (by decide) | exact Or.inr (by decide)) ?_; conv => whnf) | (refine Or.inl (And.intro (by first | assumption | rfl | exact Fz.h | exact FzL.h | exact fz_lst (by assumption) | exact fz_tup (by assumption) | exact fz_lck (by assumption)) ?_); conv => whnf) | (refine ⟨fun _ => ?_, fun z => Bool.noConfusion z⟩; conv => whnf) | (refine ⟨fun z => Bool.noConfusion z, fun _ => ?_⟩; conv => whnf) | (refine frz_go (by first | assumption | rfl | exact Fz.h | exact FzL.h | exact fz_lst (by assumption) | exact fz_tup (by assumption) | exact fz_lck (by assumption)) ?_; conv => whnf) | (refine frzL_go (by first | assumption | rfl | exact Fz.h | exact FzL.h | exact fz_lst (by assumption) | exact fz_tup (by assumption) | exact fz_lck (by assumption)) ?_; conv => whnf) | (refine lst_go (by first | assumption | rfl | exact Fz.h | exact FzL.h | exact fz_lst (by assumption) | exact fz_tup (by assumption) | exact fz_lck (by assumption)) ?_; conv => whnf) | (refine bool_go (by first | assumption | rfl | exact Fz.h | exact FzL.h | exact fz_lst (by assumption) | exact fz_tup (by assumption) | exact fz_lck (by assumption)) ?_; conv => whnf) | (intro p0 z; rw [PV.fz_frz _ (by first | assumption | rfl | exact Fz.h | exact FzL.h | exact fz_lst (by assumption) | exact fz_tup (by assumption) | exact fz_lck (by assumption))] at z; subst z; conv => whnf))))
/-- what a comprehension picks and makes -/
def imap {α β : Type} (g : Nat → α → Option β) : List α → Nat → List β
  | [], _ => []
  | x :: xs, i => match g i x with
    | some y => y :: imap g xs (i + 1)
    | none => imap g xs (i + 1)
theorem imap_len {α β : Type} (g : Nat → α → Option β) : ∀ (xs : List α) (i : Nat), (imap g xs i).length ≤ xs.length
  | [], _ => Nat.le_refl _
  | x :: xs, i => by
    unfold imap
    split
    · exact Nat.succ_le_succ (imap_len g xs _)
    · exact Nat.le_succ_of_le (imap_len g xs _)
theorem imap_congr {α β γ : Type} {g : Nat → α → Option β} {g' : Nat → γ → Option β} : ∀ {xs : List α} {ys : List γ} {i : Nat}, xs.length = ys.length → (∀ (j : Nat) (x : α) (y : γ), xs[j]? = some x → ys[j]? = some y → g (i + j) x = g' (i + j) y) → imap g xs i = imap g' ys i
  | [], [], _, _, _ => rfl
  | [], _ :: _, _, h, _ => by cases h
  | _ :: _, [], _, h, _ => by cases h
  | x :: xs, y :: ys, i, h, k => by
    have h0 := k 0 x y rfl rfl
    have ih := imap_congr (g := g) (g' := g') (xs := xs) (ys := ys) (i := i + 1) (Nat.succ.inj h) fun j a b ha hb => by
      have := k (j + 1) a b (by simpa using ha) (by simpa using hb)
      rwa [show i + (j + 1) = i + 1 + j from by omega] at this
    simp only [Nat.add_zero] at h0
    simp only [imap, h0, ih]
theorem imap_app {α β : Type} (g : Nat → α → Option β) : ∀ (xs ys : List α) (i : Nat), imap g (xs ++ ys) i = imap g xs i ++ imap g ys (i + xs.length)
  | [], ys, i => rfl
  | x :: xs, ys, i => by
    have := imap_app g xs ys (i + 1)
    rw [show i + 1 + xs.length = i + (x :: xs).length from by simp; omega] at this
    simp only [List.cons_append, imap, this]
    split <;> rfl
/-- items by their places -/
def itemsL {α : Type} (it : Nat → α → PV) : List α → Nat → List PV
  | [], _ => []
  | x :: xs, i => it i x :: itemsL it xs (i + 1)
theorem items_rng {α : Type} : ∀ (xs : List α) (i : Nat), itemsL (fun j _ => .int (j : Int)) xs i = rngI (i : Int) xs.length
  | [], _ => rfl
  | x :: xs, i => congrArg (PV.int (i : Int) :: ·) (items_rng xs (i + 1))
theorem items_enm {α : Type} (f : α → PV) : ∀ (xs : List α) (i : Nat), itemsL (fun j x => .tup [.int (j : Int), f x]) xs i = enmN (i : Int) (xs.map f)
  | [], _ => rfl
  | x :: xs, i => congrArg (PV.tup [.int (i : Int), f x] :: ·) (items_enm f xs (i + 1))
theorem items_map {α : Type} (f : α → PV) : ∀ (xs : List α) (i : Nat), itemsL (fun _ x => f x) xs i = xs.map f
  | [], _ => rfl
  | x :: xs, i => congrArg (f x :: ·) (items_map f xs (i + 1))
theorem items_zip {α β : Type} (f : α → PV) (g : β → PV) : ∀ (xs : List α) (ys : List β) (i : Nat), itemsL (fun _ z => .tup [f z.1, g z.2]) (xs.zip ys) i = zipN (xs.map f) (ys.map g)
  | [], _, _ => rfl
  | _ :: _, [], _ => rfl
  | x :: xs, y :: ys, i => congrArg (PV.tup [f x, g y] :: ·) (items_zip f g xs ys (i + 1))
theorem zK_im {α β : Type} {tg : IT} {own : List Nat} {ifs : Fr → (Bool → Fr → Prop) → Prop} {elt : Fr → (PV → Fr → Prop) → Prop} {items : List PV} {ρ : Fr} {Q : PV → Fr → Prop} (xs : List α) (it : Nat → α → PV) (g : Nat → α → Option β) (r : β → PV)
    (hl : xs.length ≤ 10000) (hx : items = itemsL it xs 0)
    (h : Q (.lst true ((imap g xs 0).map r)) (backB (frzAt ρ own) (wipeF (frzAt ρ own) own) own))
    (step : ∀ j x, xs[j]? = some x → ∀ C : Option PV → Fr → Prop, C ((g j x).map r) (wipeF (frzAt ρ own) own) → ∃ ρ2, asg tg (it j x) (wipeF (frzAt ρ own) own) = some ρ2 ∧ ifs ρ2 fun k ρ3 => (k = true → elt ρ3 fun y ρ4 => ∃ y', y.frz = y' ∧ C (some y') (wipeF ρ4 own)) ∧ (k = false → C none (wipeF ρ3 own))) : zK tg own ifs elt items ρ Q := by
  refine zK_in (fun rest acc ρ' => ∃ (done todo : List α), xs = done ++ todo ∧ rest = itemsL it todo done.length ∧ acc = (imap g done 0).map r ∧ ρ' = wipeF (frzAt ρ own) own) ⟨[], xs, rfl, hx, rfl, rfl⟩ ?_ ?_
  · rintro _ _ ⟨done, todo, e1, e2, rfl, rfl⟩
    cases todo with
    | cons p r => cases e2
    | nil =>
      rw [List.append_nil] at e1
      subst e1
      exact h
  · rintro y rest acc _ ⟨done, todo, e1, e2, rfl, rfl⟩
    cases todo with
    | nil => cases e2
    | cons p todo =>
      obtain ⟨rfl, rfl⟩ := List.cons.inj (show y :: rest = it done.length p :: itemsL it todo (done.length + 1) from e2)
      have hp : xs[done.length]? = some p := by rw [e1, List.getElem?_append_right (Nat.le_refl _), Nat.sub_self]; rfl
      have hlen : ((imap g done 0).map r).length < sizeLine := by
        rw [List.length_map]
        have := imap_len g done 0
        have : xs.length = done.length + (todo.length + 1) := by rw [e1]; simp
        exact small_lt (show _ ≤ 10000 by omega)
      have hI : ∀ acc' : List PV, acc' = (imap g (done ++ [p]) 0).map r → ∃ (done' todo' : List α), xs = done' ++ todo' ∧ itemsL it todo (done.length + 1) = itemsL it todo' done'.length ∧ acc' = (imap g done' 0).map r ∧ wipeF (frzAt ρ own) own = wipeF (frzAt ρ own) own := fun acc' e => ⟨done ++ [p], todo, by simpa using e1, by rw [List.length_append]; rfl, e, rfl⟩
      refine step done.length p hp (fun o ρ' => match o with
        | some y' => ((imap g done 0).map r).length < sizeLine ∧ ∃ (done' todo' : List α), xs = done' ++ todo' ∧ itemsL it todo (done.length + 1) = itemsL it todo' done'.length ∧ (imap g done 0).map r ++ [y'] = (imap g done' 0).map r ∧ ρ' = wipeF (frzAt ρ own) own
        | none => ∃ (done' todo' : List α), xs = done' ++ todo' ∧ itemsL it todo (done.length + 1) = itemsL it todo' done'.length ∧ (imap g done 0).map r = (imap g done' 0).map r ∧ ρ' = wipeF (frzAt ρ own) own) ?_
      cases e : g done.length p with
      | none => exact hI _ (by rw [imap_app]; simp only [imap, Nat.zero_add, e, List.append_nil])
      | some z => exact ⟨hlen, hI _ (by rw [imap_app, List.map_append]; simp only [imap, Nat.zero_add, e, List.map_cons, List.map_nil])⟩
/-- .. over the list that stands in slot i -/
theorem zKv_im {α β : Type} {tg : IT} {own : List Nat} {i : Nat} {ifs : Fr → (Bool → Fr → Prop) → Prop} {elt : Fr → (PV → Fr → Prop) → Prop} {n : Nat} {ρ : Fr} {Q : PV → Fr → Prop} (xs : List α) (f : α → PV) (o : Bool) (g : Nat → α → Option β) (r : β → PV)
    (ho : own.contains i = false) (hl : xs.length ≤ 10000) (hn : n = xs.length) (hf : ∀ x, (f x).fz = true) (hv : (wipeF (frzAt ρ own) own).at i = some (.lst o (xs.map f)))
    (h : Q (.lst true ((imap g xs 0).map r)) (backB (frzAt ρ own) (wipeF (frzAt ρ own) own) own))
    (step : ∀ j x, xs[j]? = some x → ∀ C : Option PV → Fr → Prop, C ((g j x).map r) (wipeF (frzAt ρ own) own) → ∃ ρ2, asg tg (f x) (wipeF (frzAt ρ own) own) = some ρ2 ∧ ifs ρ2 fun k ρ3 => (k = true → elt ρ3 fun y ρ4 => ∃ y', y.frz = y' ∧ C (some y') (wipeF ρ4 own)) ∧ (k = false → C none (wipeF ρ3 own))) : zKv tg own i ifs elt n ρ Q := by
  subst hn
  refine zKv_in ho (fun j acc ρ' => acc = (imap g (xs.take j) 0).map r ∧ ρ' = wipeF (frzAt ρ own) own) ⟨rfl, rfl⟩ ?_ ?_
  · rintro _ _ ⟨rfl, rfl⟩
    refine ⟨by have := vwLen_map hv; rwa [List.length_map] at this, ?_⟩
    rw [List.take_length]
    exact h
  · rintro j acc _ hj ⟨rfl, rfl⟩
    have e2 : xs.take (j + 1) = xs.take j ++ [xs[j]] := by rw [List.take_succ, List.getElem?_eq_getElem hj]; rfl
    have hlj : (xs.take j).length = j := by rw [List.length_take]; omega
    have hlen : ((imap g (xs.take j) 0).map r).length < sizeLine := by
      rw [List.length_map]
      have := imap_len g (xs.take j) 0
      rw [hlj] at this
      exact small_lt (show _ ≤ 10000 by omega)
    have hp : xs[j]? = some xs[j] := List.getElem?_eq_getElem hj
    obtain ⟨ρ2, ha, hi⟩ := step j xs[j] hp (fun o ρ' => match o with
      | some y' => ((imap g (xs.take j) 0).map r).length < sizeLine ∧ ((imap g (xs.take j) 0).map r ++ [y'] = (imap g (xs.take (j + 1)) 0).map r ∧ ρ' = wipeF (frzAt ρ own) own)
      | none => (imap g (xs.take j) 0).map r = (imap g (xs.take (j + 1)) 0).map r ∧ ρ' = wipeF (frzAt ρ own) own) (by
        rw [e2, imap_app]
        cases e : g j xs[j] with
        | none => exact ⟨by simp only [imap, Nat.zero_add, hlj, e, List.append_nil], rfl⟩
        | some z => exact ⟨hlen, by simp only [imap, Nat.zero_add, hlj, e, List.map_append, List.map_cons, List.map_nil], rfl⟩)
    exact ⟨f xs[j], ρ2, by have := vwAt_map hf hv hj; rwa [List.length_map] at this, ha, hi⟩
/-! loops that fold -/
def ifo {α σ : Type} (F : Nat → α → σ → σ) : List α → Nat → σ → σ
  | [], _, s => s
  | x :: xs, i, s => ifo F xs (i + 1) (F i x s)
theorem zF_fo {α σ : Type} {tg : IT} {body : Fr → (Fl → Fr → Prop) → Prop} {items : List PV} {ρ : Fr} {Q : Fl → Fr → Prop} {E : PX → Fr → Prop} (xs : List α) (it : Nat → α → PV) (F : Nat → α → σ → σ) (s0 : σ) (R : Nat → σ → Fr → Prop)
    (hx : items = itemsL it xs 0) (h0 : R 0 s0 ρ) (hk : ∀ ρ, R xs.length (ifo F xs 0 s0) ρ → Q .nx ρ)
    (step : ∀ j x s ρ, xs[j]? = some x → R j s ρ → ∀ C : Fr → Prop, (∀ ρ', R (j + 1) (F j x s) ρ' → C ρ') → ∃ ρ2, asg tg (it j x) ρ = some ρ2 ∧ body ρ2 fun f ρ1 => match f with
      | .nx => C ρ1
      | .ct => C ρ1
      | .bk => Q .nx ρ1
      | .rt p => Q (.rt p) ρ1) : zF tg body items ρ Q E := by
  refine zF_in (fun rest ρ' => ∃ (done todo : List α) (s : σ), xs = done ++ todo ∧ rest = itemsL it todo done.length ∧ ifo F todo done.length s = ifo F xs 0 s0 ∧ R done.length s ρ') ⟨[], xs, s0, rfl, hx, rfl, h0⟩ ?_ ?_
  · rintro ρ' ⟨done, todo, s, e1, e2, e3, h⟩
    cases todo with
    | cons p r => cases e2
    | nil =>
      rw [List.append_nil] at e1
      subst e1
      rw [show s = ifo F xs 0 s0 from e3] at h
      exact hk ρ' h
  · rintro y rest ρ' ⟨done, todo, s, e1, e2, e3, h⟩
    cases todo with
    | nil => cases e2
    | cons p todo =>
      obtain ⟨rfl, rfl⟩ := List.cons.inj (show y :: rest = it done.length p :: itemsL it todo (done.length + 1) from e2)
      have hp : xs[done.length]? = some p := by rw [e1, List.getElem?_append_right (Nat.le_refl _), Nat.sub_self]; rfl
      refine step done.length p s ρ' hp h (fun ρ1 => ∃ (done' todo' : List α) (s' : σ), xs = done' ++ todo' ∧ itemsL it todo (done.length + 1) = itemsL it todo' done'.length ∧ ifo F todo' done'.length s' = ifo F xs 0 s0 ∧ R done'.length s' ρ1) fun ρ1 h1 => ?_
      refine ⟨done ++ [p], todo, F done.length p s, by simpa using e1, by rw [List.length_append]; rfl, ?_, by rw [List.length_append]; exact h1⟩
      rw [← e3, List.length_append]
      rfl
/-! Marks -/
abbrev mkC (ms : List (Str × MR)) (up : List (Str × Bool)) : CK := ⟨"Marks", ["begin", "end"], some [0, 1], ms, up⟩
abbrev mkP (ms : List (Str × MR)) (up : List (Str × Bool)) (b e : Str) (o : Bool) : PV := .obj o (mkC ms up) [.str b, .str e]
abbrev blX (rel : List (Str × Bool)) (ty : List (String × Bool)) : XD := ⟨"BadLine", ["line"], rel, ty⟩
abbrev bmX (rel : List (Str × Bool)) (ty : List (String × Bool)) : XD := ⟨"BadMarks", ["line"], rel, ty⟩
def mkInitB (r1 : List (Str × Bool)) (t1 : List (String × Bool)) (r2 : List (Str × Bool)) (t2 : List (String × Bool)) : List IS := [
  .fors (.nm 3) (.it (.tup [.loc 1, .loc 2])) [.ife (.op .not [.call "is_line" [true] [.loc 3]]) [.rai (blX r1 t1) [.loc 3]] []],
  .ife (.op (.cmp .Eq) [.loc 1, .loc 2]) [.rai (bmX r2 t2) [.loc 1]] [],
  .fst 0 "begin" (.loc 1),
  .fst 0 "end" (.loc 2)]
def blocksB : List IS := [
  .ret (.call "block_spans" [true, true, true] [.call "look_file" [true] [.loc 1], .fld (.loc 0) "begin", .fld (.loc 0) "end"])]
def straysB : List IS := [
  .set 2 (.call "row_words" [true, true, true] [.call "look_file" [true] [.loc 1], .fld (.loc 0) "begin", .fld (.loc 0) "end"]),
  .ret (.comp (.loc 3) (.tp [.nm 3, .nm 4]) (.enm (.loc 2)) [.op (.cmp .Eq) [.loc 4, .cst (.str "stray")]] [3, 4])]
section
variable {T : Tb} {fuel n : Nat} {rel : List (Str × Bool)} {ty : List (String × Bool)} {r1 r2 : List (Str × Bool)} {t1 t2 : List (String × Bool)} {ms : List (Str × MR)} {up : List (Str × Bool)}
theorem isl_ln (hI : T_IsL T) {s : Str} (hs : LnOk s = true) {Q : PV → Fr → Prop} {E : PX → Fr → Prop} (h : Q (.bl true) [some (.str s)]) : zC (callN T fuel (n + 1)) ("is_line" : Str) [.str s] Q E :=
  isl_str hI (Nat.le_trans (lnOk_le hs) (by decide)) (by rw [hs]; exact h)
theorem mk_init (hI : T_IsL T) (hT : T ("Marks.__init__" : Str) = some ⟨4, 3, [true, true, true], mkInitB r1 t1 r2 t2⟩) {a b : Str} (ha : LnOk a = true) (hb : LnOk b = true) (hab : a ≠ b) {Q : PV → Fr → Prop} {E : PX → Fr → Prop}
    (h2 : Q .non [some (mkP ms up a b true), some (.str a), some (.str b)]) : zC (callN T fuel (n + 2)) ("Marks.__init__" : Str) [.obj true (mkC ms up) [], .str a, .str b] Q E := by
  refine run_ok hT rfl ?_
  decreasing_trivial
  refine zF_un ?_
  decreasing_trivial
  refine isl_ln hI ha ?_
  decreasing_trivial
  refine isl_ln hI hb ?_
  decreasing_trivial
  refine ⟨fun hk => absurd (of_decide_eq_true hk) hab, fun hk => ?_⟩
  decreasing_trivial
  exact h2
theorem blocks_ok (hI : T_IsL T) (hL : T_Look T rel ty) (hS : T_Spans T) (hT : T ("Marks.blocks" : Str) = some ⟨2, 2, [true, true], blocksB⟩) {rs : List Str} {b e : Str} (hl : rs.length ≤ 10000) (hr : ∀ s ∈ rs, LnOk s = true) {o : Bool} {Q : PV → Fr → Prop} {E : PX → Fr → Prop} (h : Q (.lst true ((spn b e rs 0 none).map spP)) [some (mkP ms up b e false), some (.lst false (rs.map .str))]) :
    zC (callN T fuel (n + 3)) ("Marks.blocks" : Str) [mkP ms up b e false, .lst o (rs.map .str)] Q E := by
  have hf : PV.fzL (rs.map .str) = true := fzL_strs _
  cases o
  all_goals
    refine run_ok hT rfl ?_
    decreasing_trivial
    refine look_ok hI hL hr ?_
    decreasing_trivial
    refine spans_ok hS hl ?_
    decreasing_trivial
    exact h
/-- the indexes of the rows with a word -/
def wIdx (w : Wd) (ws : List Wd) : List Nat := imap (fun j x => if x = w then some j else none) ws 0
theorem wd_s (w : Wd) : (w.s = "stray") ↔ w = .stray := by cases w <;> decide +kernel
theorem strays_ok (hI : T_IsL T) (hL : T_Look T rel ty) (hS : T_Spans T) (hW : T_Words T) (hT : T ("Marks.strays" : Str) = some ⟨5, 2, [true, true], straysB⟩) {rs : List Str} {b e : Str} (hbe : b ≠ e) (hl : rs.length ≤ 10000) (hr : ∀ s ∈ rs, LnOk s = true) {o : Bool} {Q : PV → Fr → Prop} {E : PX → Fr → Prop} (h : Q (.lst true ((wIdx .stray (wds b e rs)).map fun (j : Nat) => PV.int (j : Int))) [some (mkP ms up b e false), some (.lst false (rs.map .str))]) :
    zC (callN T fuel (n + 3)) ("Marks.strays" : Str) [mkP ms up b e false, .lst o (rs.map .str)] Q E := by
  have hf : PV.fzL (rs.map .str) = true := fzL_strs _
  have hf2 : PV.fzL ((wds b e rs).map Wd.p) = true := fzL_wd _
  cases o
  all_goals
    refine run_ok hT rfl ?_
    decreasing_trivial
    refine look_ok hI hL hr ?_
    decreasing_trivial
    refine words_ok hS hW hbe hl ?_
    decreasing_trivial
    refine zK_im (wds b e rs) (fun j w => .tup [.int (j : Int), w.p]) (fun j x => if x = .stray then some j else none) (fun (j : Nat) => .int (j : Int)) (by rw [wds_len]; exact hl) (items_enm Wd.p _ 0).symm ?_ fun j w _ C hC => ?_
    · decreasing_trivial
      exact h
    · refine ⟨_, rfl, ?_⟩
      decreasing_trivial
      refine ⟨fun hk => ?_, fun hk => ?_⟩
      · rw [if_pos ((wd_s w).mp (of_decide_eq_true hk))] at hC
        decreasing_trivial
        exact hC
      · rw [if_neg fun z => of_decide_eq_false hk ((wd_s w).mpr z)] at hC
        exact hC
end
end Y
end
section
set_option Elab.async false
set_option linter.all false
set_option autoImplicit false
/-! M2: which spans there are; turned around, put behind. -/
namespace Y
section
variable {α : Type} [DecidableEq α]
theorem dropc {rs : List α} {i : Nat} {r : α} {todo : List α} (hd : rs.drop i = r :: todo) : i < rs.length ∧ rs[i]? = some r ∧ rs.drop (i + 1) = todo := by
  have hi : i < rs.length := by
    rcases Nat.lt_or_ge i rs.length with h | h
    · exact h
    · rw [List.drop_eq_nil_of_le h] at hd; cases hd
  rw [List.drop_eq_getElem_cons hi] at hd
  exact ⟨hi, by rw [List.getElem?_eq_getElem hi]; exact congrArg some (List.cons.inj hd).1, (List.cons.inj hd).2⟩
def Blk (b e : α) (rs : List α) (s t : Nat) : Prop := s < t ∧ rs[s]? = some b ∧ rs[t]? = some e ∧ ∀ j r, s < j → j < t → rs[j]? = some r → r ≠ b ∧ r ≠ e
theorem getE_lt {rs : List α} {i : Nat} {r : α} (h : rs[i]? = some r) : i < rs.length := (List.getElem?_eq_some_iff.mp h).1
theorem spn_has {b e : α} (hbe : b ≠ e) {rs : List α} {s t : Nat} (h : Blk b e rs s t) : ∀ (todo : List α) (i : Nat) (st : Option Nat), rs.drop i = todo → i ≤ s ∨ (s < i ∧ i ≤ t ∧ st = some s) → (s, t) ∈ spn b e todo i st
  | [], i, st, hd, hi => by
    have h1 := getE_lt h.2.1
    have h2 := getE_lt h.2.2.1
    have : rs.length ≤ i := List.drop_eq_nil_iff.mp hd
    omega
  | r :: todo, i, st, hd, hi => by
    obtain ⟨hil, hr, hd2⟩ := dropc hd
    unfold spn
    rcases hi with hi | ⟨h1, h2, rfl⟩
    · rcases Nat.lt_or_eq_of_le hi with hi | hi
      · split
        · exact spn_has hbe h todo _ _ hd2 (.inl hi)
        · split
          · split
            · exact List.mem_cons_of_mem _ (spn_has hbe h todo _ _ hd2 (.inl hi))
            · exact spn_has hbe h todo _ _ hd2 (.inl hi)
          · exact spn_has hbe h todo _ _ hd2 (.inl hi)
      · subst hi
        rw [h.2.1] at hr
        cases hr
        rw [if_pos rfl]
        have := h.1
        exact spn_has hbe h todo _ _ hd2 (.inr ⟨by omega, by omega, rfl⟩)
    · rcases Nat.lt_or_eq_of_le h2 with h2 | h2
      · have := h.2.2.2 i r h1 h2 hr
        rw [if_neg this.1, if_neg this.2]
        exact spn_has hbe h todo _ _ hd2 (.inr ⟨by omega, by omega, rfl⟩)
      · subst h2
        rw [h.2.2.1] at hr
        cases hr
        rw [if_neg (fun z => hbe z.symm), if_pos rfl]
        exact List.mem_cons_self
theorem spn_mem {b e : α} (hbe : b ≠ e) {rs : List α} {s t : Nat} : (s, t) ∈ spn b e rs 0 none ↔ Blk b e rs s t := by
  constructor
  · intro h
    obtain ⟨_, h1, _, h2, h3, h4⟩ := (spn_ok hbe rs).mem h
    exact ⟨h1, h2, h3, h4⟩
  · exact fun h => spn_has hbe h rs 0 none rfl (.inl (Nat.zero_le _))
theorem SpOk.pw {b e : α} {rs : List α} : ∀ {l : List (Nat × Nat)} {lo : Nat}, SpOk b e rs lo l → l.Pairwise fun y z => y.2 < z.1
  | _, _, .nil _ => List.Pairwise.nil
  | _, _, .cons (s := s) (t := t) h1 h2 h3 hs ht hm hl => List.Pairwise.cons (fun z hz => by have := hl.mem (s := z.1) (t := z.2) hz; omega) hl.pw
theorem spn_pw {b e : α} (hbe : b ≠ e) (rs : List α) : (spn b e rs 0 none).Pairwise fun y z => y.1 < z.1 := by
  have h := spn_ok hbe rs
  have h2 := h.pw
  refine List.Pairwise.imp_of_mem (fun {y z} hy _ hyz => ?_) h2
  have := h.mem (s := y.1) (t := y.2) hy
  omega
/-- lists in strict order of a key that hold the same are the same -/
theorem sorted_ext {β : Type} (f : β → Nat) : ∀ (xs ys : List β), xs.Pairwise (fun y z => f y < f z) → ys.Pairwise (fun y z => f y < f z) → (∀ z, z ∈ xs ↔ z ∈ ys) → xs = ys
  | [], [], _, _, _ => rfl
  | [], y :: ys, _, _, h => absurd ((h y).mpr List.mem_cons_self) List.not_mem_nil
  | x :: xs, [], _, _, h => absurd ((h x).mp List.mem_cons_self) List.not_mem_nil
  | x :: xs, y :: ys, h1, h2, h => by
    cases h1 with
    | cons a1 b1 =>
    cases h2 with
    | cons a2 b2 =>
    have e : x = y := by
      rcases List.mem_cons.mp ((h x).mp List.mem_cons_self) with z | z
      · exact z
      · rcases List.mem_cons.mp ((h y).mpr List.mem_cons_self) with w | w
        · exact w.symm
        · have := a1 y w
          have := a2 x z
          omega
    subst e
    congr 1
    refine sorted_ext f xs ys b1 b2 fun z => ⟨fun hz => ?_, fun hz => ?_⟩
    · rcases List.mem_cons.mp ((h z).mp (List.mem_cons_of_mem _ hz)) with w | w
      · subst w
        have := a1 z hz
        omega
      · exact w
    · rcases List.mem_cons.mp ((h z).mpr (List.mem_cons_of_mem _ hz)) with w | w
      · subst w
        have := a2 z hz
        omega
      · exact w
/-- turned around -/
def turnZ (n : Nat) (z : Nat × Nat) : Nat × Nat := (n - 1 - z.2, n - 1 - z.1)
theorem blk_rev {b e : α} {rs : List α} {s t : Nat} (h : Blk b e rs s t) : Blk e b rs.reverse (rs.length - 1 - t) (rs.length - 1 - s) := by
  obtain ⟨h1, h2, h3, h4⟩ := h
  have l1 := getE_lt h2
  have l2 := getE_lt h3
  have g : ∀ i, i < rs.length → rs.reverse[rs.length - 1 - i]? = rs[i]? := fun i hi => by
    rw [List.getElem?_reverse (by omega)]
    congr 1
    omega
  refine ⟨by omega, by rw [g t l2]; exact h3, by rw [g s l1]; exact h2, fun j r j1 j2 hj => ?_⟩
  have hjl := getE_lt hj
  rw [List.length_reverse] at hjl
  have e1 := g (rs.length - 1 - j) (by omega)
  rw [show rs.length - 1 - (rs.length - 1 - j) = j from by omega, hj] at e1
  exact (h4 _ r (by omega) (by omega) e1.symm).symm
theorem spn_rev {b e : α} (hbe : b ≠ e) (rs : List α) : (spn e b rs.reverse 0 none).reverse = (spn b e rs 0 none).map (turnZ rs.length) := by
  have h0 := spn_ok hbe rs
  have key : spn e b rs.reverse 0 none = ((spn b e rs 0 none).map (turnZ rs.length)).reverse := by
    refine sorted_ext (·.1) _ _ (spn_pw hbe.symm _) ?_ fun z => ?_
    · rw [List.pairwise_reverse, List.pairwise_map]
      refine List.Pairwise.imp_of_mem (fun {y z} hy hz hyz => ?_) h0.pw
      have h1 := h0.mem (s := y.1) (t := y.2) hy
      have h2 := h0.mem (s := z.1) (t := z.2) hz
      show rs.length - 1 - z.2 < rs.length - 1 - y.2
      omega
    · obtain ⟨s, t⟩ := z
      rw [spn_mem hbe.symm, List.mem_reverse, List.mem_map]
      constructor
      · intro h
        have h1 := blk_rev h
        rw [List.reverse_reverse, List.length_reverse] at h1
        have l2 := getE_lt h.2.2.1
        rw [List.length_reverse] at l2
        have := h.1
        refine ⟨_, (spn_mem hbe).mpr h1, ?_⟩
        unfold turnZ
        congr 1 <;> dsimp only <;> omega
      · rintro ⟨⟨s', t'⟩, h1, h2⟩
        unfold turnZ at h2
        cases h2
        exact blk_rev ((spn_mem hbe).mp h1)
  rw [key, List.reverse_reverse]
/-- behind lines without a begin -/
def shZ (c : Nat) (z : Nat × Nat) : Nat × Nat := (z.1 + c, z.2 + c)
theorem spn_shift (b e : α) (c : Nat) : ∀ (rs : List α) (i : Nat) (st : Option Nat), spn b e rs (i + c) (st.map (· + c)) = (spn b e rs i st).map (shZ c)
  | [], _, _ => rfl
  | r :: rs, i, st => by
    have h1 := spn_shift b e c rs (i + 1)
    have e1 : i + c + 1 = i + 1 + c := by omega
    unfold spn
    rw [e1]
    split
    · exact h1 (some i)
    · split
      · cases st with
        | none => exact h1 none
        | some s => exact congrArg ((s + c, i + c) :: ·) (h1 none)
      · exact h1 st
theorem spn_front {b e : α} : ∀ (fr rs : List α) (i : Nat), b ∉ fr → spn b e (fr ++ rs) i none = spn b e rs (i + fr.length) none
  | [], rs, i, _ => rfl
  | r :: fr, rs, i, h => by
    have h1 : ¬ r = b := fun z => h (by rw [z]; exact List.mem_cons_self)
    have ih := spn_front (b := b) (e := e) fr rs (i + 1) fun z => h (List.mem_cons_of_mem _ z)
    have e1 : spn b e (r :: (fr ++ rs)) i none = spn b e (fr ++ rs) (i + 1) none := by
      rw [spn, if_neg h1]
      split <;> rfl
    rw [List.cons_append, e1, ih, List.length_cons, show i + 1 + fr.length = i + (fr.length + 1) from by omega]
theorem spn_behind {b e : α} {fr : List α} (rs : List α) (h : b ∉ fr) : spn b e (fr ++ rs) 0 none = (spn b e rs 0 none).map (shZ fr.length) := by
  rw [spn_front fr rs 0 h]
  exact spn_shift b e fr.length rs 0 none
/-! all marks: the blocks' ends and the strays -/
theorem ends_nd {b e : α} {rs : List α} : ∀ {l : List (Nat × Nat)} {lo : Nat}, SpOk b e rs lo l → (ends l).Nodup ∧ ∀ j ∈ ends l, lo ≤ j ∧ j < rs.length
  | _, _, .nil _ => ⟨by simp [ends], by simp [ends]⟩
  | _, _, .cons (s := s) (t := t) (l := l) (lo := lo) h1 h2 h3 hs ht hm hl => by
    obtain ⟨a1, a2⟩ := ends_nd hl
    have e1 : ends ((s, t) :: l) = s :: t :: ends l := rfl
    rw [e1]
    refine ⟨?_, fun j hj => ?_⟩
    · refine List.nodup_cons.mpr ⟨fun z => ?_, List.nodup_cons.mpr ⟨fun z => ?_, a1⟩⟩
      · rcases List.mem_cons.mp z with z | z
        · omega
        · have := a2 s z; omega
      · have := a2 t z; omega
    · rcases List.mem_cons.mp hj with z | hj
      · omega
      · rcases List.mem_cons.mp hj with z | hj
        · omega
        · have := a2 j hj; omega
end
end Y
end
section
set_option Elab.async false
set_option linter.all false
set_option autoImplicit false
/-! M3: indexes that are picked; marks in order. -/
namespace Y
open PySem
abbrev pk {α : Type} (P : Nat → α → Prop) [∀ j r, Decidable (P j r)] : Nat → α → Option Nat := fun j r => if P j r then some j else none
theorem mem_pk {α : Type} {P : Nat → α → Prop} [∀ j r, Decidable (P j r)] : ∀ {xs : List α} {i j : Nat}, j ∈ imap (pk P) xs i ↔ ∃ k r, xs[k]? = some r ∧ j = i + k ∧ P j r
  | [], i, j => by simp [imap]
  | x :: xs, i, j => by
    have ih := mem_pk (P := P) (xs := xs) (i := i + 1) (j := j)
    have tail : (∃ k r, xs[k]? = some r ∧ j = i + 1 + k ∧ P j r) → ∃ k r, (x :: xs)[k]? = some r ∧ j = i + k ∧ P j r := fun ⟨k, r, h1, h2, h3⟩ => ⟨k + 1, r, by simpa using h1, by omega, h3⟩
    constructor
    · intro h
      unfold imap at h
      split at h
      · rename_i y hy
        have hp : P i x ∧ y = i := by
          unfold pk at hy
          split at hy
          · rename_i hp; exact ⟨hp, (Option.some.inj hy).symm⟩
          · cases hy
        rcases List.mem_cons.mp h with z | z
        · rw [hp.2] at z
          exact ⟨0, x, rfl, by omega, by rw [z]; exact hp.1⟩
        · exact tail (ih.mp z)
      · exact tail (ih.mp h)
    · rintro ⟨k, r, h1, h2, h3⟩
      unfold imap
      cases k with
      | zero =>
        have e1 : x = r := Option.some.inj (by simpa using h1)
        subst e1
        rw [Nat.add_zero] at h2
        subst h2
        unfold pk
        rw [if_pos h3]
        exact List.mem_cons_self
      | succ k =>
        have : j ∈ imap (pk P) xs (i + 1) := ih.mpr ⟨k, r, by simpa using h1, by omega, h3⟩
        split
        · exact List.mem_cons_of_mem _ this
        · exact this
theorem pk_pw {α : Type} {P : Nat → α → Prop} [∀ j r, Decidable (P j r)] : ∀ (xs : List α) (i : Nat), (imap (pk P) xs i).Pairwise (· < ·)
  | [], _ => List.Pairwise.nil
  | x :: xs, i => by
    have ih := pk_pw (P := P) xs (i + 1)
    unfold imap
    split
    · rename_i y hy
      have e : y = i := by
        unfold pk at hy
        split at hy
        · exact (Option.some.inj hy).symm
        · cases hy
      subst e
      refine List.Pairwise.cons (fun z hz => ?_) ih
      obtain ⟨k, r, _, h, _⟩ := mem_pk.mp hz
      omega
    · exact ih
theorem nd_of_pw {l : List Nat} (h : l.Pairwise (· < ·)) : l.Nodup := h.imp fun h => Nat.ne_of_lt h
/-- no member lies between neighbours -/
theorem pw_gap : ∀ {l : List Nat} {k s t j : Nat}, l.Pairwise (· < ·) → l[k]? = some s → l[k + 1]? = some t → j ∈ l → s < j → j < t → False
  | [], k, s, t, j, _, h, _, _, _, _ => by simp at h
  | x :: l, 0, s, t, j, hp, h1, h2, hj, a, b => by
    cases hp with
    | cons hx hp =>
    have e1 : x = s := Option.some.inj (by simpa using h1)
    subst e1
    cases l with
    | nil => simp at h2
    | cons y l =>
      have e2 : y = t := Option.some.inj (by simpa using h2)
      subst e2
      rcases List.mem_cons.mp hj with z | z
      · omega
      · rcases List.mem_cons.mp z with z | z
        · omega
        · cases hp with
          | cons hy _ => have := hy j z; omega
  | x :: l, k + 1, s, t, j, hp, h1, h2, hj, a, b => by
    cases hp with
    | cons hx hp =>
    have h1' : l[k]? = some s := by simpa using h1
    have h2' : l[k + 1]? = some t := by simpa using h2
    rcases List.mem_cons.mp hj with z | z
    · have := hx s (List.mem_of_getElem? h1')
      omega
    · exact pw_gap hp h1' h2' z a b
abbrev mkIx (b e : Str) (rs : List Str) : List Nat := imap (pk fun _ r => r = b ∨ r = e) rs 0
theorem stray_mem {b e : Str} (hbe : b ≠ e) {rs : List Str} {j : Nat} : j ∈ wIdx .stray (wds b e rs) ↔ ∃ r, rs[j]? = some r ∧ (r = b ∨ r = e) ∧ j ∉ ends (spn b e rs 0 none) := by
  have so := spn_ok hbe rs
  show j ∈ imap (pk fun _ w => w = Wd.stray) (wds b e rs) 0 ↔ _
  rw [mem_pk]
  constructor
  · rintro ⟨k, w, h1, h2, h3⟩
    rw [Nat.zero_add] at h2
    subst h2
    unfold wds at h1
    rw [List.getElem?_mapIdx] at h1
    cases hr : rs[j]? with
    | none => rw [hr] at h1; cases h1
    | some r =>
      rw [hr] at h1
      have e1 : wdA b e (spn b e rs 0 none) r j = w := Option.some.inj h1
      exact ⟨r, rfl, (stray_iff so hr).mp (e1.trans h3)⟩
  · rintro ⟨r, hr, h⟩
    refine ⟨j, _, ?_, (Nat.zero_add j).symm, (stray_iff so hr).mpr h⟩
    unfold wds
    rw [List.getElem?_mapIdx, hr]
    rfl
theorem marks_all {b e : Str} (hbe : b ≠ e) (rs : List Str) : (∀ j, j ∈ ends (spn b e rs 0 none) ++ wIdx .stray (wds b e rs) ↔ j ∈ mkIx b e rs) ∧ (ends (spn b e rs 0 none) ++ wIdx .stray (wds b e rs)).Nodup := by
  have so := spn_ok hbe rs
  constructor
  · intro j
    rw [List.mem_append, stray_mem hbe, mem_pk]
    constructor
    · rintro (h | ⟨r, h1, h2, _⟩)
      · obtain ⟨s, t, h1, h2⟩ := mem_ends.mp h
        obtain ⟨_, _, _, hs, ht, _⟩ := so.mem h1
        rcases h2 with rfl | rfl
        · exact ⟨_, _, hs, (Nat.zero_add _).symm, .inl rfl⟩
        · exact ⟨_, _, ht, (Nat.zero_add _).symm, .inr rfl⟩
      · exact ⟨_, _, h1, (Nat.zero_add _).symm, h2⟩
    · rintro ⟨k, r, h1, h2, h3⟩
      rw [Nat.zero_add] at h2
      subst h2
      by_cases h : j ∈ ends (spn b e rs 0 none)
      · exact .inl h
      · exact .inr ⟨r, h1, h3, h⟩
  · refine List.nodup_append.mpr ⟨(ends_nd so).1, nd_of_pw (pk_pw (P := fun _ w => w = Wd.stray) _ 0), fun x hx y hy hxy => ?_⟩
    subst hxy
    obtain ⟨_, _, _, h⟩ := (stray_mem hbe).mp hy
    exact h hx
abbrev toI (l : List Nat) : List Int := l.map fun (j : Nat) => (j : Int)
theorem sort_nat {l m : List Nat} (hm : m.Pairwise (· < ·)) (hl : l.Nodup) (h : ∀ j, j ∈ l ↔ j ∈ m) : (toI l).mergeSort intLe = toI m := by
  have hp : ((toI l).mergeSort intLe).Perm (toI l) := List.mergeSort_perm _ _
  have hs : ((toI l).mergeSort intLe).Pairwise fun a b => intLe a b = true := List.pairwise_mergeSort (fun a b c => by simp only [intLe, decide_eq_true_eq]; omega) (fun a b => by simp only [intLe, Bool.or_eq_true, decide_eq_true_eq]; omega) _
  have hnd : ((toI l).mergeSort intLe).Nodup := hp.nodup_iff.mpr ((List.pairwise_map.mpr (hl.imp fun h => by omega)))
  have hlt : ((toI l).mergeSort intLe).Pairwise fun a b => a.toNat < b.toNat := by
    refine List.Pairwise.imp_of_mem (R := fun a b => intLe a b = true ∧ a ≠ b) (fun {a b} ha hb hab => ?_) (hs.and hnd)
    have h1 : a ≤ b := of_decide_eq_true hab.1
    have h2 := hab.2
    obtain ⟨x, _, rfl⟩ := List.mem_map.mp (hp.mem_iff.mp ha)
    obtain ⟨y, _, rfl⟩ := List.mem_map.mp (hp.mem_iff.mp hb)
    omega
  refine sorted_ext Int.toNat _ _ hlt (List.pairwise_map.mpr (hm.imp fun h => by omega)) fun z => ?_
  rw [hp.mem_iff, List.mem_map, List.mem_map]
  constructor
  · rintro ⟨j, h1, rfl⟩
    exact ⟨j, (h j).mp h1, rfl⟩
  · rintro ⟨j, h1, rfl⟩
    exact ⟨j, (h j).mpr h1, rfl⟩
/-- neighbours that are a begin and an end make a block -/
theorem near_blk {b e : Str} (hbe : b ≠ e) {rs : List Str} {k s t : Nat} (h1 : (mkIx b e rs)[k]? = some s) (h2 : (mkIx b e rs)[k + 1]? = some t) (hs : rs[s]? = some b) (ht : rs[t]? = some e) : (s, t) ∈ spn b e rs 0 none := by
  have hp : (mkIx b e rs).Pairwise (· < ·) := pk_pw (P := fun _ (r : Str) => r = b ∨ r = e) _ 0
  refine (spn_mem hbe).mpr ⟨?_, hs, ht, fun j r j1 j2 hj => ?_⟩
  · obtain ⟨l1, e1⟩ := List.getElem?_eq_some_iff.mp h1
    obtain ⟨l2, e2⟩ := List.getElem?_eq_some_iff.mp h2
    rw [← e1, ← e2]
    exact List.pairwise_iff_getElem.mp hp k (k + 1) l1 l2 (Nat.lt_succ_self _)
  · have hn : j ∉ mkIx b e rs := fun hm => pw_gap hp h1 h2 hm j1 j2
    constructor
    · rintro rfl
      exact hn (mem_pk.mpr ⟨j, _, hj, (Nat.zero_add j).symm, .inl rfl⟩)
    · rintro rfl
      exact hn (mem_pk.mpr ⟨j, _, hj, (Nat.zero_add j).symm, .inr rfl⟩)
end Y
end
section
set_option Elab.async false
set_option linter.all false
set_option maxRecDepth 100001
set_option maxHeartbeats 4000001
set_option autoImplicit false
set_option pp.maxSteps 600
/-! V10: numbers, pairs of numbers; more operations. -/
namespace Y
open PySem
abbrev nP (j : Nat) : PV := .int (j : Int)
theorem items_rng2 {α : Type} (c : Nat) : ∀ (xs : List α) (i : Nat), itemsL (fun j _ => nP (c + j)) xs i = rngI ((c + i : Nat) : Int) xs.length
  | [], _ => rfl
  | x :: xs, i => congrArg (nP (c + i) :: ·) (items_rng2 c xs (i + 1))
theorem eqv_nat (i j : Nat) : PyData.eqv (.int i) (.int j) = decide (i = j) := by
  rw [eqv_int]
  by_cases h : i = j
  · simp [h]
  · rw [decide_eq_false h, decide_eq_false (by omega)]
def kNat : Kd Nat := ⟨nP, fun j => .int j, 0, fun _ => rfl, eqv_nat, fun _ => by simp [PyData.depth]⟩
def kSp : Kd (Nat × Nat) := ⟨spP, fun z => .tuple [.int z.1, .int z.2], 1, fun _ => rfl, fun x y => by
  simp only [PyData.eqv, PyData.eqvAll, eqv_nat]
  obtain ⟨a, b⟩ := x
  obtain ⟨c, d⟩ := y
  by_cases h1 : a = c <;> by_cases h2 : b = d <;> simp [h1, h2] <;> omega, fun _ => by simp [PyData.depth, PyData.depthAll]⟩
theorem fzL_nP (l : List Nat) : PV.fzL (l.map nP) = true := fzL_of (fun _ => rfl) l
theorem kd_neR {α : Type} [DecidableEq α] (K : Kd α) (hm : K.m < 60) {o o2 : Bool} {xs : List α} : opN (.cmp .NotEq) [.lst o (xs.map K.f), .lst o2 (xs.map K.f)] = some (.bl false) := by
  rw [kd_ne K hm]
  simp
theorem kd_eqR {α : Type} [DecidableEq α] (K : Kd α) (hm : K.m < 60) {o o2 : Bool} {xs : List α} : opN (.cmp .Eq) [.lst o (xs.map K.f), .lst o2 (xs.map K.f)] = some (.bl true) := by
  rw [kd_eq K hm]
  simp
theorem kd_any {α : Type} [DecidableEq α] (K : Kd α) (w : α) : ∀ a : List α, ((a.map K.g).any fun z => PyData.eqv z (K.g w)) = decide (w ∈ a)
  | [] => by simp
  | x :: a => by
    rw [List.map_cons, List.any_cons, kd_any K w a, K.eqv]
    by_cases h : x = w
    · simp [h]
    · have : ¬ w = x := fun z => h z.symm
      simp [h, this]
theorem kd_in {α : Type} [DecidableEq α] (K : Kd α) (hm : K.m ≤ 60) {w : α} {o : Bool} {xs : List α} : opN (.cmp .In) [K.f w, .lst o (xs.map K.f)] = some (.bl (decide (w ∈ xs))) := by
  show (cmpN .In _ _).map _ = _
  have hd : PyData.depthAll (xs.map K.g) ≤ 60 := Nat.le_trans (depthAll_of K.dep xs) hm
  simp only [cmpN]
  split
  · simp only [flatIn, K.dat, datL_of K.dat, kd_any, Option.map]
  · simp only [inSeq, K.dat, datL_of K.dat, kd_any, decide_eq_true hd, if_true, Option.map]
theorem kd_notin {α : Type} [DecidableEq α] (K : Kd α) (hm : K.m ≤ 60) {w : α} {o : Bool} {xs : List α} : opN (.cmp .NotIn) [K.f w, .lst o (xs.map K.f)] = some (.bl (!decide (w ∈ xs))) := by
  show (cmpN .NotIn _ _).map _ = _
  have hd : PyData.depthAll (xs.map K.g) ≤ 60 := Nat.le_trans (depthAll_of K.dep xs) hm
  simp only [cmpN]
  split
  · simp only [flatIn, K.dat, datL_of K.dat, kd_any, Option.map]
  · simp only [inSeq, K.dat, datL_of K.dat, kd_any, decide_eq_true hd, if_true, Option.map]
theorem any_false : ∀ n : Nat, ((List.replicate n (PyData.bool true)).any fun z => PyData.eqv z (.bool false)) = false
  | 0 => rfl
  | n + 1 => by rw [List.replicate_succ, List.any_cons, any_false n]; decide +kernel
theorem datL_tt : ∀ n : Nat, PV.datL (List.replicate n (.bl true)) = some (List.replicate n (.bool true))
  | 0 => rfl
  | n + 1 => by simp [List.replicate_succ, PV.datL, PV.dat, datL_tt n]
theorem all_tt : ∀ n : Nat, (List.replicate n (PV.bl true)).all flat = true
  | 0 => rfl
  | n + 1 => by rw [List.replicate_succ, List.all_cons, all_tt n]; rfl
theorem n_noF {o : Bool} {n : Nat} : opN (.cmp .In) [.bl false, .lst o (List.replicate n (.bl true))] = some (.bl false) := by
  show (cmpN .In _ _).map _ = _
  simp only [cmpN, all_tt, flat, Bool.and_self, if_true, flatIn, PV.dat, datL_tt, any_false, Option.map]
theorem imap_true {α : Type} : ∀ (xs : List α) (i : Nat), (imap (fun _ _ => some true) xs i).map PV.bl = List.replicate xs.length (.bl true)
  | [], _ => rfl
  | x :: xs, i => by simp only [imap, List.map_cons, List.length_cons, List.replicate_succ, imap_true xs (i + 1)]
theorem imap_map {α β : Type} (f : α → β) : ∀ (xs : List α) (i : Nat), imap (fun _ x => some (f x)) xs i = xs.map f
  | [], _ => rfl
  | x :: xs, i => by simp only [imap, List.map_cons, imap_map f xs (i + 1)]
theorem imap_filter {α : Type} (P : α → Prop) [DecidablePred P] : ∀ (xs : List α) (i : Nat), imap (fun _ x => if P x then some x else none) xs i = xs.filter fun x => decide (P x)
  | [], _ => rfl
  | x :: xs, i => by
    have ih := imap_filter P xs (i + 1)
    unfold imap
    rw [ih]
    by_cases h : P x
    · simp [h]
    · simp [h]
theorem n_back {α : Type} {f : α → PV} (hf : ∀ x, (f x).fz = true) {o : Bool} {xs : List α} : opN .back [.lst o (xs.map f)] = some (.lst true (xs.reverse.map f)) := by
  show (if PV.fzL (xs.map f) then some (PV.lst true (xs.map f).reverse) else none) = _
  rw [if_pos (fzL_of hf xs), List.map_reverse]
theorem n_sort2 {a b m : List Nat} (hm : m.Pairwise (· < ·)) (hnd : (a ++ b).Nodup) (h : ∀ j, j ∈ a ++ b ↔ j ∈ m) {o : Bool} : opN .sorted [.lst o (a.map nP ++ b.map nP)] = some (.lst true (m.map nP)) := by
  have e1 : a.map nP ++ b.map nP = (toI (a ++ b)).map PV.int := by
    rw [← List.map_append, List.map_map]
    rfl
  have e2 : m.map nP = (toI m).map PV.int := by
    rw [List.map_map]
    rfl
  rw [e1, e2]
  show sortedP _ = _
  unfold sortedP
  simp only [lstOf, Option.bind, intsP_mk, sort_nat hm hnd h]
/-! slices -/
theorem sIx_nat {n i : Nat} (d : Nat) (h : i ≤ n) : HT.sIx n d (some (i : Int)) = i := by
  unfold HT.sIx
  dsimp only
  split <;> omega
theorem cut_nat {α : Type} {xs : List α} {i j : Nat} (hi : i ≤ xs.length) (hj : j ≤ xs.length) : cutP xs (some (i : Int)) (some (j : Int)) = (xs.drop i).take (j - i) := by
  unfold cutP
  rw [sIx_nat 0 hi, sIx_nat _ hj]
theorem cut_from {α : Type} {xs : List α} {i : Nat} (hi : i ≤ xs.length) : cutP xs (some (i : Int)) none = xs.drop i := by
  unfold cutP
  rw [sIx_nat 0 hi]
  show (xs.drop i).take (xs.length - i) = _
  exact List.take_of_length_le (by simp)
theorem cut_to {α : Type} {xs : List α} {j : Nat} (hj : j ≤ xs.length) : cutP xs none (some (j : Int)) = xs.take j := by
  unfold cutP
  rw [sIx_nat _ hj]
  show (xs.drop 0).take (j - 0) = _
  simp
theorem mem_cut {α : Type} {xs : List α} {i j : Nat} (hi : i ≤ xs.length) (hj : j ≤ xs.length) {x : α} (h : x ∈ cutP xs (some (i : Int)) (some (j : Int))) : ∃ k, i ≤ k ∧ k < j ∧ xs[k]? = some x := by
  rw [cut_nat hi hj] at h
  obtain ⟨k, hk⟩ := List.mem_iff_getElem?.mp h
  rw [List.getElem?_take] at hk
  split at hk
  · rw [List.getElem?_drop] at hk
    exact ⟨i + k, by omega, by omega, hk⟩
  · cases hk
theorem n_slc {α : Type} {f : α → PV} (hf : ∀ x, (f x).fz = true) {o : Bool} {xs : List α} {lo hi : Option Int} : sliceN (.lst o (xs.map f)) lo hi = some (.lst true ((cutP xs lo hi).map f)) := by
  show (if PV.fzL (xs.map f) then some (PV.lst true (cutP (xs.map f) lo hi)) else none) = _
  rw [if_pos (fzL_of hf xs), cut_map]
theorem atI_of {α : Type} {f : α → PV} {xs : List α} {j : Nat} {x : α} (h : xs[j]? = some x) : L2.atI (xs.map f) (j : Int) = some (f x) := L2.atI_nat (by rw [List.getElem?_map, h]; rfl)
theorem atI_drawn {α : Type} {f : α → PV} {xs : List α} {j : Int} (h0 : 0 ≤ j) (h1 : j < xs.length) : ∃ x ∈ xs, xs[j.toNat]? = some x ∧ L2.atI (xs.map f) j = some (f x) := by
  have h2 : j.toNat < xs.length := by omega
  refine ⟨xs[j.toNat], List.getElem_mem h2, List.getElem?_eq_getElem h2, ?_⟩
  have := atI_of (f := f) (List.getElem?_eq_getElem h2)
  rwa [show ((j.toNat : Nat) : Int) = j from by omega] at this
/-- a law's end -/
abbrev QL : Fl → Fr → Prop := fun f _ => match f with
  | .rt p => p = .bl true
  | .nx => PV.non = .bl true
  | _ => False
end Y
end
section
set_option Elab.async false
set_option linter.all false
set_option maxRecDepth 100001
set_option maxHeartbeats 4000001
set_option autoImplicit false
set_option pp.maxSteps 600
/-! V11: places. -/
namespace Y
open PySem
local macro_rules
  | `(tactic| decreasing_trivial) => `(tactic| ((conv => whnf); repeat (first | (refine ⟨_, rfl, (by first | assumption | rfl | exact Fz.h | exact FzL.h | exact fz_lst (by assumption) | exact fz_tup (by assumption) | exact fz_lck (by assumption)), ?_⟩; conv => whnf) | (refine ⟨_, rfl, ?_⟩; conv => whnf) | (refine And.intro rfl ?_; conv => whnf) | (refine And.intro (by first | assumption | decide | omega | exact len_lt rfl) ?_; conv => whnf) | (refine And.intro (by first | assumption | rfl | exact Fz.h | exact FzL.h | exact fz_lst (by assumption) | exact fz_tup (by assumption) | exact fz_lck (by assumption)) ?_; conv => whnf) | (refine And.intro (And.intro (by first | assumption | decide | omega | exact len_lt rfl) (by first | assumption | decide | omega | exact len_lt rfl)) ?_; conv => whnf) | (refine And.intro (And.intro (And.intro (by first | assumption | decide | omega | exact len_lt rfl) (by first | assumption | decide | omega | exact len_lt rfl)) (And.intro (by first | assumption | decide | omega | exact len_lt rfl) (by first | assumption | decide | omega | exact len_lt rfl))) ?_; conv => whnf) | (refine And.intro (And.intro (by first | assumption | rfl | exact Fz.h | exact FzL.h | exact fz_lst (by assumption) | exact fz_tup (by assumption) | exact fz_lck (by assumption)) (And.intro (by first | assumption | rfl | exact Fz.h | exact FzL.h | exact fz_lst (by assumption) | exact fz_tup (by assumption) | exact fz_lck (by assumption)) (by first | assumption | rfl | exact Fz.h | exact FzL.h | exact fz_lst (by assumption) | exact fz_tup (by assumption) | exact fz_lck (by assumption)))) ?_; conv => whnf) | (refine And.intro (by first | exact Or.inl (by decide) | exact Or.inr (by decide)) ?_; conv => whnf) | (refine Or.inl (And.intro (by first | assumption | rfl | exact Fz.h | exact FzL.h | exact fz_lst (by assumption) | exact fz_tup (by assumption) | exact fz_lck (by assumption)) ?_); conv => whnf) | (refine ⟨fun _ => ?_, fun z => Bool.noConfusion z⟩; conv => whnf) | (refine ⟨fun z => Bool.noConfusion z, fun _ => ?_⟩; conv => whnf) | (refine frz_go (by first | assumption | rfl | exact Fz.h | exact FzL.h | exact fz_lst (by assumption) | exact fz_tup (by assumption) | exact fz_lck (by assumption)) ?_; conv => whnf) | (refine frzL_go (by first | assumption | rfl | exact Fz.h | exact FzL.h | exact fz_lst (by assumption) | exact fz_tup (by assumption) | exact fz_lck (by assumption)) ?_; conv => whnf) | (refine lst_go (by first | assumption | rfl | exact Fz.h | exact FzL.h | exact fz_lst (by assumption) | exact fz_tup (by assumption) | exact fz_lck (by assumption)) ?_; conv => whnf) | (refine bool_go (by first | assumption | rfl | exact Fz.h | exact FzL.h | exact fz_lst (by assumption) | exact fz_tup (by assumption) | exact fz_lck (by assumption)) ?_; conv => whnf) | (intro p0 z; rw [PV.fz_frz _ (by first | assumption | rfl | exact Fz.h | exact FzL.h | exact fz_lst (by assumption) | exact fz_tup (by assumption) | exact fz_lck (by assumption))] at z; subst z; conv => whnf))))
local macro_rules
  | `(tactic| decreasing_trivial_pre_omega) => `(tactic| ((conv => whnf); repeat (first | (refine And.intro rfl ?_; conv => whnf) | (refine And.intro (by first | assumption | decide | omega | exact len_lt rfl) ?_; conv => whnf) | (refine And.intro (by first | assumption | rfl | exact Fz.h | exact FzL.h | exact fz_lst (by assumption) | exact fz_tup (by assumption) | exact fz_lck (by assumption)) ?_; conv => whnf) | (refine And.intro (And.intro (by first | assumption | decide | omega | exact len_lt rfl) (by first | assumption | decide | omega | exact len_lt rfl)) ?_; conv => whnf) | (refine And.intro (And.intro (And.intro (by first | assumption | decide | omega | exact len_lt rfl) (by first | assumption | decide | omega | exact len_lt rfl)) (And.intro (by first | assumption | decide | omega | exact len_lt rfl) (by first | assumption | decide | omega | exact len_lt rfl))) ?_; conv => whnf) | (refine And.intro (And.intro (by first | assumption | rfl | exact Fz.h | exact FzL.h | exact fz_lst (by assumption) | exact fz_tup (by assumption) | exact fz_lck (by assumption)) (And.intro (by first | assumption | rfl | exact Fz.h | exact FzL.h | exact fz_lst (by assumption) | exact fz_tup (by assumption) | exact fz_lck (by assumption)) (by first | assumption | rfl | exact Fz.h | exact FzL.h | exact fz_lst (by assumption) | exact fz_tup (by assumption) | exact fz_lck (by assumption)))) ?_; conv => whnf) | (refine And.intro (by first | exact Or.inl (by decide) | exact Or.inr (by decide)) ?_; conv => whnf) | (refine Or.inl (And.intro (by first | assumption | rfl | exact Fz.h | exact FzL.h | exact fz_lst (by assumption) | exact fz_tup (by assumption) | exact fz_lck (by assumption)) ?_); conv => whnf) | (refine ⟨fun _ => ?_, fun z => Bool.noConfusion z⟩; conv => whnf) | (refine ⟨fun z => Bool.noConfusion z, fun _ => ?_⟩; conv => whnf) | (refine frz_go (by first | assumption | rfl | exact Fz.h | exact FzL.h | exact fz_lst (by assumption) | exact fz_tup (by assumption) | exact fz_lck (by assumption)) ?_; conv => whnf) | (refine frzL_go (by first | assumption | rfl | exact Fz.h | exact FzL.h | exact fz_lst (by assumption) | exact fz_tup (by assumption) | exact fz_lck (by assumption)) ?_; conv => whnf) | (refine lst_go (by first | assumption | rfl | exact Fz.h | exact FzL.h | exact fz_lst (by assumption) | exact fz_tup (by assumption) | exact fz_lck (by assumption)) ?_; conv => whnf) | (refine bool_go (by first | assumption | rfl | exact Fz.h | exact FzL.h | exact fz_lst (by assumption) | exact fz_tup (by assumption) | exact fz_lck (by assumption)) ?_; conv => whnf) | (intro p0 z; rw [PV.fz_frz _ (by first | assumption | rfl | exact Fz.h | exact FzL.h | exact fz_lst (by assumption) | exact fz_tup (by assumption) | exact fz_lck (by assumption))] at z; subst z; conv => whnf))))
abbrev plC (ms : List (Str × MR)) (up : List (Str × Bool)) : CK := ⟨"Place", ["side", "line", "last", "lacking"], some [3, 2, 1, 0], ms, up⟩
abbrev plP (ms : List (Str × MR)) (up : List (Str × Bool)) (a b c d : PV) (o : Bool) : PV := .obj o (plC ms up) [a, b, c, d]
abbrev bpX (rel : List (Str × Bool)) (ty : List (String × Bool)) : XD := ⟨"BadPlace", ["word"], rel, ty⟩
def plInitB : List IS := [
  .fst 0 "side" (.loc 1),
  .fst 0 "line" (.loc 2),
  .fst 0 "last" (.loc 3),
  .fst 0 "lacking" (.loc 4)]
def plFieldsB : List IS := [
  .ret (.tup [.fld (.loc 0) "side", .fld (.loc 0) "line", .fld (.loc 0) "last", .fld (.loc 0) "lacking"])]
def plTopB (K : CK) (s : Str) : List IS := [
  .ret (.cal (.newv 0 K) [] [true, true, true, true] [.cst (.str s), .cst .non, .cst .non, .cst .non] [.a 0, .a 1, .a 2, .a 3] none)]
def plAftB (K : CK) (s : Str) : List IS := [
  .exp (.call "look_choices" [true, true, true] [.loc 1, .loc 2, .loc 3]),
  .ret (.cal (.newv 0 K) [] [true, true, true, true] [.cst (.str s), .loc 1, .loc 2, .loc 3] [.a 0, .a 1, .a 2, .a 3] none)]
def plLackB : List IS := [
  .ret (.and (.op .isi [.loc 0, .cst (.ty "str")]) (.op (.cmp .In) [.loc 0, .tup [.cst (.str "top"), .cst (.str "bottom"), .cst (.str "refuse")]]))]
def choicesB (K : CK) (r1 : List (Str × Bool)) (t1 : List (String × Bool)) (r2 : List (Str × Bool)) (t2 : List (String × Bool)) : List IS := [
  .ife (.op .not [.call "is_line" [true] [.loc 0]]) [.rai (blX r1 t1) [.loc 0]] [],
  .ife (.and (.op (.cmp .IsNot) [.loc 1, .cst (.bl true)]) (.op (.cmp .IsNot) [.loc 1, .cst (.bl false)])) [.rai (bpX r2 t2) [.loc 1]] [],
  .ife (.op .not [.cal (.mth (.cst (.cl K)) "is_lacking" none) [] [true] [.loc 2] [.a 0] none]) [.rai (bpX r2 t2) [.loc 2]] []]
def plEqB (K : CK) : List IS := [
  .ret (.and (.op .isk [.loc 1, .cst (.cl K)]) (.op (.cmp .Eq) [.cal (.mth (.loc 0) "fields" none) [] [] [] [] none, .cal (.mth (.loc 1) "fields" none) [] [] [] [] none]))]
section
variable {T : Tb} {fuel n : Nat} {r1 r2 : List (Str × Bool)} {t1 t2 : List (String × Bool)} {ms : List (Str × MR)} {up : List (Str × Bool)}
theorem pl_init (hT : T ("Place.__init__" : Str) = some ⟨5, 5, [true, true, true, true, true], plInitB⟩) {a b c d : PV} (ha : a.fz = true) (hb : b.fz = true) (hc : c.fz = true) (hd : d.fz = true) {Q : PV → Fr → Prop} {E : PX → Fr → Prop} (h : Q .non [some (plP ms up a b c d true), some a, some b, some c, some d]) :
    zC (callN T fuel (n + 1)) ("Place.__init__" : Str) [.obj true (plC ms up) [], a, b, c, d] Q E := by
  refine run_ok hT rfl ?_
  decreasing_trivial
  exact h
theorem pl_fields (hT : T ("Place.fields" : Str) = some ⟨1, 1, [true], plFieldsB⟩) {a b c d : PV} (ha : a.fz = true) (hb : b.fz = true) (hc : c.fz = true) (hd : d.fz = true) {Q : PV → Fr → Prop} {E : PX → Fr → Prop} (h : Q (.tup [a, b, c, d]) [some (plP ms up a b c d false)]) :
    zC (callN T fuel (n + 1)) ("Place.fields" : Str) [plP ms up a b c d false] Q E := by
  refine run_ok hT rfl ?_
  decreasing_trivial
  exact h
/-- is_lacking of any object -/
def lackP : PV → Bool
  | .str s => decide (s = "top" ∨ s = "bottom" ∨ s = "refuse")
  | _ => false
theorem lack_str (hT : T ("Place.is_lacking" : Str) = some ⟨1, 1, [true], plLackB⟩) {s : Str} {Q : PV → Fr → Prop} {E : PX → Fr → Prop} (h : Q (.bl (lackP (.str s))) [some (.str s)]) : zC (callN T fuel (n + 1)) ("Place.is_lacking" : Str) [.str s] Q E := by
  have e1 : opN (.cmp .In) [.str s, .tup [.str "top", .str "bottom", .str "refuse"]] = some (.bl (lackP (.str s))) := by
    have e2 : opN (.cmp .In) [.str s, .tup [.str "top", .str "bottom", .str "refuse"]] = opN (.cmp .In) [.str s, .lst false ((["top", "bottom", "refuse"] : List Str).map PV.str)] := rfl
    rw [e2, n_in]
    unfold lackP
    simp only [List.mem_cons, List.not_mem_nil, or_false]
  refine run_ok hT rfl ?_
  decreasing_trivial_pre_omega
  refine ⟨_, e1, ?_⟩
  decreasing_trivial
  exact h
theorem lack_no (hT : T ("Place.is_lacking" : Str) = some ⟨1, 1, [true], plLackB⟩) {p : PV} (hp : NotStr p) {Q : PV → Fr → Prop} {E : PX → Fr → Prop} (h : Q (.bl false) [some p]) : zC (callN T fuel (n + 1)) ("Place.is_lacking" : Str) [p] Q E := by
  have e : ∀ t, t = "NoneType" ∨ t = "bool" ∨ t = "int" ∨ t = "list" ∨ t = "tuple" → isiT t "str" = false := by
    rintro t (rfl | rfl | rfl | rfl | rfl) <;> decide +kernel
  rcases hp with rfl | ⟨b, rfl⟩ | ⟨i, rfl⟩ | ⟨xs, rfl, hf⟩ | ⟨xs, rfl, hf⟩
  all_goals
    refine run_ok hT rfl ?_
    conv => whnf
    refine And.intro rfl ?_
    rw [e _ (by simp)]
    decreasing_trivial
    exact h
theorem lack_itm (hT : T ("Place.is_lacking" : Str) = some ⟨1, 1, [true], plLackB⟩) {p : PV} (hp : Itm p) {Q : PV → Fr → Prop} {E : PX → Fr → Prop} (h : Q (.bl (lackP p)) [some p]) : zC (callN T fuel (n + 1)) ("Place.is_lacking" : Str) [p] Q E := by
  rcases hp with ⟨s, rfl, hs⟩ | hp
  · exact lack_str hT h
  · have e : lackP p = false := by rcases hp with rfl | ⟨b, rfl⟩ | ⟨i, rfl⟩ | ⟨xs, rfl, _⟩ | ⟨xs, rfl, _⟩ <;> rfl
    rw [e] at h
    exact lack_no hT hp h
def isBl : PV → Bool
  | .bl _ => true
  | _ => false
/-- the choices are looked at -/
theorem choices (hI : T_IsL T) (hK : T ("Place.is_lacking" : Str) = some ⟨1, 1, [true], plLackB⟩) (hm : ms.lookup ("is_lacking" : Str) = some (.sm "Place.is_lacking")) (hT : T ("look_choices" : Str) = some ⟨3, 3, [true, true, true], choicesB (plC ms up) r1 t1 r2 t2⟩) {a b c : PV} (ha : Itm a) (hb : Itm b) (hc : Itm c) {Q : PV → Fr → Prop} {E : PX → Fr → Prop}
    (h0 : lnP a = false → E ⟨blX r1 t1, [("line", a)]⟩ [some a, some b, some c]) (h1 : lnP a = true → isBl b = false → E ⟨bpX r2 t2, [("word", b)]⟩ [some a, some b, some c]) (h2 : lnP a = true → isBl b = true → lackP c = false → E ⟨bpX r2 t2, [("word", c)]⟩ [some a, some b, some c])
    (h3 : lnP a = true → isBl b = true → lackP c = true → Q .non [some a, some b, some c]) : zC (callN T fuel (n + 2)) ("look_choices" : Str) [a, b, c] Q E := by
  have fa := itm_fz ha
  have fb := itm_fz hb
  have fc := itm_fz hc
  have hmm : methOf (.cl (plC ms up)) ("is_lacking" : Str) = some (.key "Place.is_lacking" []) := by
    show (match ms.lookup ("is_lacking" : Str) with
      | some (.cm k) => some (HR.key k [.vl (.cl (plC ms up))])
      | some (.sm k) => some (.key k [])
      | _ => none) = _
    rw [hm]
  refine run_ok hT rfl ?_
  decreasing_trivial
  refine isl_itm hI ha ?_
  decreasing_trivial
  refine ⟨fun k0 => ?_, fun k0 => ?_⟩
  · decreasing_trivial
    exact h0 (by simpa using k0)
  · have k0 : lnP a = true := by simpa using k0
    have h1 := h1 k0
    have h2 := h2 k0
    have h3 := h3 k0
    rcases hb with ⟨s, rfl, hs⟩ | rfl | ⟨b, rfl⟩ | ⟨i, rfl⟩ | ⟨xs, rfl, hf⟩ | ⟨xs, rfl, hf⟩
    case inr.inr.inl =>
      have h2 := h2 rfl
      have h3 := h3 rfl
      cases b
      all_goals
        decreasing_trivial
        rw [hmm]
        decreasing_trivial
        refine lack_itm hK hc ?_
        decreasing_trivial
        refine ⟨fun k1 => ?_, fun k1 => ?_⟩
        · decreasing_trivial
          exact h2 (by simpa using k1)
        · decreasing_trivial
          exact h3 (by simpa using k1)
    all_goals
      have h1 := h1 rfl
      decreasing_trivial
      exact h1
theorem pl_top {s : Str} {key : Str} (hi : ms.lookup ("__init__" : Str) = some (.df "Place.__init__")) (hN : T ("Place.__init__" : Str) = some ⟨5, 5, [true, true, true, true, true], plInitB⟩) (hT : T key = some ⟨1, 1, [true], plTopB (plC ms up) s⟩) {Q : PV → Fr → Prop} {E : PX → Fr → Prop} (h : Q (plP ms up (.str s) .non .non .non true) [some (.cl (plC ms up))]) :
    zC (callN T fuel (n + 2)) key [.cl (plC ms up)] Q E := by
  have hii : initOf (plC ms up) = some ("Place.__init__" : Str) := by
    simp only [initOf, hi]
  refine run_ok hT rfl ?_
  decreasing_trivial
  rw [hii]
  decreasing_trivial
  refine pl_init hN rfl rfl rfl rfl ?_
  decreasing_trivial
  exact h
theorem pl_aft {s : Str} {key : Str} (hI : T_IsL T) (hi : ms.lookup ("__init__" : Str) = some (.df "Place.__init__")) (hN : T ("Place.__init__" : Str) = some ⟨5, 5, [true, true, true, true, true], plInitB⟩) (hK : T ("Place.is_lacking" : Str) = some ⟨1, 1, [true], plLackB⟩) (hm : ms.lookup ("is_lacking" : Str) = some (.sm "Place.is_lacking")) (hC : T ("look_choices" : Str) = some ⟨3, 3, [true, true, true], choicesB (plC ms up) r1 t1 r2 t2⟩) (hT : T key = some ⟨4, 4, [true, true, true, true], plAftB (plC ms up) s⟩) {a b c : PV} (ha : Itm a) (hb : Itm b) (hc : Itm c) {Q : PV → Fr → Prop} {E : PX → Fr → Prop}
    (h0 : lnP a = false → E ⟨blX r1 t1, [("line", a)]⟩ [some (.cl (plC ms up)), some a, some b, some c]) (h1 : lnP a = true → isBl b = false → E ⟨bpX r2 t2, [("word", b)]⟩ [some (.cl (plC ms up)), some a, some b, some c]) (h2 : lnP a = true → isBl b = true → lackP c = false → E ⟨bpX r2 t2, [("word", c)]⟩ [some (.cl (plC ms up)), some a, some b, some c])
    (h3 : lnP a = true → isBl b = true → lackP c = true → Q (plP ms up (.str s) a b c true) [some (.cl (plC ms up)), some a, some b, some c]) : zC (callN T fuel (n + 3)) key [.cl (plC ms up), a, b, c] Q E := by
  have fa := itm_fz ha
  have fb := itm_fz hb
  have fc := itm_fz hc
  have hii : initOf (plC ms up) = some ("Place.__init__" : Str) := by
    simp only [initOf, hi]
  refine run_ok hT rfl ?_
  decreasing_trivial
  refine choices hI hK hm hC ha hb hc (fun k0 => ?_) (fun k0 k1 => ?_) (fun k0 k1 k2 => ?_) fun k0 k1 k2 => ?_
  · decreasing_trivial
    exact h0 k0
  · decreasing_trivial
    exact h1 k0 k1
  · decreasing_trivial
    exact h2 k0 k1 k2
  · decreasing_trivial
    rw [hii]
    decreasing_trivial
    refine pl_init hN rfl fa fb fc ?_
    decreasing_trivial
    exact h3 k0 k1 k2
end
end Y
end
section
set_option Elab.async false
set_option linter.all false
set_option maxRecDepth 100001
set_option maxHeartbeats 4000001
set_option autoImplicit false
set_option pp.maxSteps 600
/-! V12: == of places. -/
namespace Y
open PySem
local macro_rules
  | `(tactic| decreasing_trivial) => `(tactic| ((conv => whnf); repeat (first | (refine ⟨_, rfl, (by first | assumption | rfl | exact Fz.h | exact FzL.h | exact fz_lst (by assumption) | exact fz_tup (by assumption) | exact fz_lck (by assumption)), ?_⟩; conv => whnf) | (refine ⟨_, rfl, ?_⟩; conv => whnf) | (refine And.intro rfl ?_; conv => whnf) | (refine And.intro (by first | assumption | decide | omega | exact len_lt rfl) ?_; conv => whnf) | (refine And.intro (by first | assumption | rfl | exact Fz.h | exact FzL.h | exact fz_lst (by assumption) | exact fz_tup (by assumption) | exact fz_lck (by assumption)) ?_; conv => whnf) | (refine And.intro (And.intro (by first | assumption | decide | omega | exact len_lt rfl) (by first | assumption | decide | omega | exact len_lt rfl)) ?_; conv => whnf) | (refine And.intro (And.intro (And.intro (by first | assumption | decide | omega | exact len_lt rfl) (by first | assumption | decide | omega | exact len_lt rfl)) (And.intro (by first | assumption | decide | omega | exact len_lt rfl) (by first | assumption | decide | omega | exact len_lt rfl))) ?_; conv => whnf) | (refine And.intro (And.intro (by first | assumption | rfl | exact Fz.h | exact FzL.h | exact fz_lst (by assumption) | exact fz_tup (by assumption) | exact fz_lck (by assumption)) (And.intro (by first | assumption | rfl | exact Fz.h | exact FzL.h | exact fz_lst (by assumption) | exact fz_tup (by assumption) | exact fz_lck (by assumption)) (by first | assumption | rfl | exact Fz.h | exact FzL.h | exact fz_lst (by assumption) | exact fz_tup (by assumption) | exact fz_lck (by assumption)))) ?_; conv => whnf) | (refine And.intro (by first | exact Or.inl (by decide) | exact Or.inr (by decide)) ?_; conv => whnf) | (refine Or.inl (And.intro (by first | assumption | rfl | exact Fz.h | exact FzL.h | exact fz_lst (by assumption) | exact fz_tup (by assumption) | exact fz_lck (by assumption)) ?_); conv => whnf) | (refine ⟨fun _ => ?_, fun z => Bool.noConfusion z⟩; conv => whnf) | (refine ⟨fun z => Bool.noConfusion z, fun _ => ?_⟩; conv => whnf) | (refine frz_go (by first | assumption | rfl | exact Fz.h | exact FzL.h | exact fz_lst (by assumption) | exact fz_tup (by assumption) | exact fz_lck (by assumption)) ?_; conv => whnf) | (refine frzL_go (by first | assumption | rfl | exact Fz.h | exact FzL.h | exact fz_lst (by assumption) | exact fz_tup (by assumption) | exact fz_lck (by assumption)) ?_; conv => whnf) | (refine lst_go (by first | assumption | rfl | exact Fz.h | exact FzL.h | exact fz_lst (by assumption) | exact fz_tup (by assumption) | exact fz_lck (by assumption)) ?_; conv => whnf) | (refine bool_go (by first | assumption | rfl | exact Fz.h | exact FzL.h | exact fz_lst (by assumption) | exact fz_tup (by assumption) | exact fz_lck (by assumption)) ?_; conv => whnf) | (intro p0 z; rw [PV.fz_frz _ (by first | assumption | rfl | exact Fz.h | exact FzL.h | exact fz_lst (by assumption) | exact fz_tup (by assumption) | exact fz_lck (by assumption))] at z; subst z; conv => whnf))))
local macro_rules
  | `(tactic| decreasing_trivial_pre_omega) => `(tactic| ((conv => whnf); repeat (first | (refine And.intro rfl ?_; conv => whnf) | (refine And.intro (by first | assumption | decide | omega | exact len_lt rfl) ?_; conv => whnf) | (refine And.intro (by first | assumption | rfl | exact Fz.h | exact FzL.h | exact fz_lst (by assumption) | exact fz_tup (by assumption) | exact fz_lck (by assumption)) ?_; conv => whnf) | (refine And.intro (And.intro (by first | assumption | decide | omega | exact len_lt rfl) (by first | assumption | decide | omega | exact len_lt rfl)) ?_; conv => whnf) | (refine And.intro (And.intro (And.intro (by first | assumption | decide | omega | exact len_lt rfl) (by first | assumption | decide | omega | exact len_lt rfl)) (And.intro (by first | assumption | decide | omega | exact len_lt rfl) (by first | assumption | decide | omega | exact len_lt rfl))) ?_; conv => whnf) | (refine And.intro (And.intro (by first | assumption | rfl | exact Fz.h | exact FzL.h | exact fz_lst (by assumption) | exact fz_tup (by assumption) | exact fz_lck (by assumption)) (And.intro (by first | assumption | rfl | exact Fz.h | exact FzL.h | exact fz_lst (by assumption) | exact fz_tup (by assumption) | exact fz_lck (by assumption)) (by first | assumption | rfl | exact Fz.h | exact FzL.h | exact fz_lst (by assumption) | exact fz_tup (by assumption) | exact fz_lck (by assumption)))) ?_; conv => whnf) | (refine And.intro (by first | exact Or.inl (by decide) | exact Or.inr (by decide)) ?_; conv => whnf) | (refine Or.inl (And.intro (by first | assumption | rfl | exact Fz.h | exact FzL.h | exact fz_lst (by assumption) | exact fz_tup (by assumption) | exact fz_lck (by assumption)) ?_); conv => whnf) | (refine ⟨fun _ => ?_, fun z => Bool.noConfusion z⟩; conv => whnf) | (refine ⟨fun z => Bool.noConfusion z, fun _ => ?_⟩; conv => whnf) | (refine frz_go (by first | assumption | rfl | exact Fz.h | exact FzL.h | exact fz_lst (by assumption) | exact fz_tup (by assumption) | exact fz_lck (by assumption)) ?_; conv => whnf) | (refine frzL_go (by first | assumption | rfl | exact Fz.h | exact FzL.h | exact fz_lst (by assumption) | exact fz_tup (by assumption) | exact fz_lck (by assumption)) ?_; conv => whnf) | (refine lst_go (by first | assumption | rfl | exact Fz.h | exact FzL.h | exact fz_lst (by assumption) | exact fz_tup (by assumption) | exact fz_lck (by assumption)) ?_; conv => whnf) | (refine bool_go (by first | assumption | rfl | exact Fz.h | exact FzL.h | exact fz_lst (by assumption) | exact fz_tup (by assumption) | exact fz_lck (by assumption)) ?_; conv => whnf) | (intro p0 z; rw [PV.fz_frz _ (by first | assumption | rfl | exact Fz.h | exact FzL.h | exact fz_lst (by assumption) | exact fz_tup (by assumption) | exact fz_lck (by assumption))] at z; subst z; conv => whnf))))
theorem kd_eq1 {α : Type} [DecidableEq α] (K : Kd α) (hm : K.m ≤ 60) {x y : α} : opN (.cmp .Eq) [K.f x, K.f y] = some (.bl (decide (x = y))) := by
  show (cmpN .Eq _ _).map _ = _
  have h1 : (K.g x).depth ≤ 60 := Nat.le_trans (K.dep x) hm
  simp only [cmpN, cdat, K.dat, Option.map, decide_eq_true h1, if_true, K.eqv]
theorem kd_ne1 {α : Type} [DecidableEq α] (K : Kd α) (hm : K.m ≤ 60) {x y : α} : opN (.cmp .NotEq) [K.f x, K.f y] = some (.bl (!decide (x = y))) := by
  show (cmpN .NotEq _ _).map _ = _
  have h1 : (K.g x).depth ≤ 60 := Nat.le_trans (K.dep x) hm
  simp only [cmpN, cdat, K.dat, Option.map, decide_eq_true h1, if_true, K.eqv]
theorem eqv_bool (a b : Bool) : PyData.eqv (.bool a) (.bool b) = decide (a = b) := by
  cases a <;> cases b <;> decide +kernel
abbrev pl4 (z : Str × Str × Bool × Str) : PV := .tup [.str z.1, .str z.2.1, .bl z.2.2.1, .str z.2.2.2]
def kPl : Kd (Str × Str × Bool × Str) := ⟨pl4, fun z => .tuple [.str z.1, .str z.2.1, .bool z.2.2.1, .str z.2.2.2], 1, fun _ => rfl, fun x y => by
  obtain ⟨a, b, c, d⟩ := x
  obtain ⟨a', b', c', d'⟩ := y
  simp only [PyData.eqv, PyData.eqvAll, eqv_str, eqv_bool]
  by_cases h1 : a = a' <;> by_cases h2 : b = b' <;> by_cases h3 : c = c' <;> by_cases h4 : d = d' <;> simp [h1, h2, h3, h4], fun _ => by simp [PyData.depth, PyData.depthAll]⟩
section
variable {T : Tb} {fuel n : Nat} {ms : List (Str × MR)} {up : List (Str × Bool)}
theorem pl_eq (hu : up.lookup ("Place" : Str) = some true) (hf : ms.lookup ("fields" : Str) = some (.df "Place.fields")) (hF : T ("Place.fields" : Str) = some ⟨1, 1, [true], plFieldsB⟩) (hT : T ("Place.__eq__" : Str) = some ⟨2, 2, [true, true], plEqB (plC ms up)⟩) {a b c d a' b' c' d' : PV} {r : Bool} (ha : a.fz = true) (hb : b.fz = true) (hc : c.fz = true) (hd : d.fz = true) (ha' : a'.fz = true) (hb' : b'.fz = true) (hc' : c'.fz = true) (hd' : d'.fz = true)
    (e : opN (.cmp .Eq) [.tup [a, b, c, d], .tup [a', b', c', d']] = some (.bl r)) {Q : PV → Fr → Prop} {E : PX → Fr → Prop} (h : ∀ ρ, Q (.bl r) ρ) : zC (callN T fuel (n + 2)) ("Place.__eq__" : Str) [plP ms up a b c d false, plP ms up a' b' c' d' false] Q E := by
  haveI : Fz a := ⟨ha⟩
  haveI : Fz b := ⟨hb⟩
  haveI : Fz c := ⟨hc⟩
  haveI : Fz d := ⟨hd⟩
  haveI : Fz a' := ⟨ha'⟩
  haveI : Fz b' := ⟨hb'⟩
  haveI : Fz c' := ⟨hc'⟩
  haveI : Fz d' := ⟨hd'⟩
  have hmm : ∀ a b c d : PV, methOf (plP ms up a b c d false) ("fields" : Str) = some (.key "Place.fields" [.vl (plP ms up a b c d false)]) := fun a b c d => by
    unfold methOf
    dsimp only
    rw [hf, show (["side", "line", "last", "lacking"] : List Str).contains ("fields" : Str) = false from by decide +kernel]
  have hk : ∀ a b c d : PV, opN .isk [plP ms up a b c d false, .cl (plC ms up)] = some (.bl true) := fun a b c d => by
    show (up.lookup ("Place" : Str)).map PV.bl = _
    rw [hu]
    rfl
  refine run_ok hT rfl ?_
  decreasing_trivial_pre_omega
  refine ⟨_, hk a' b' c' d', ?_⟩
  decreasing_trivial_pre_omega
  rw [hmm]
  decreasing_trivial_pre_omega
  refine pl_fields hF ha hb hc hd ?_
  decreasing_trivial_pre_omega
  rw [hmm]
  decreasing_trivial_pre_omega
  refine pl_fields hF ha' hb' hc' hd' ?_
  decreasing_trivial_pre_omega
  refine ⟨_, e, ?_⟩
  exact h _
theorem pl_eqT (hT : T ("Place.__eq__" : Str) = some ⟨2, 2, [true, true], plEqB (plC ms up)⟩) {a b c d : PV} (ha : a.fz = true) (hb : b.fz = true) (hc : c.fz = true) (hd : d.fz = true) {xs : List PV} (hx : PV.fzL xs = true) {Q : PV → Fr → Prop} {E : PX → Fr → Prop} (h : ∀ ρ, Q (.bl false) ρ) : zC (callN T fuel (n + 2)) ("Place.__eq__" : Str) [plP ms up a b c d false, .tup xs] Q E := by
  refine run_ok hT rfl ?_
  decreasing_trivial
  exact h _
end
end Y
end
section
set_option Elab.async false
set_option linter.all false
set_option maxRecDepth 100000
set_option maxHeartbeats 8000000
set_option autoImplicit false
namespace K10
open PySem Y L2
def top (i : Nat) : Stmt := PySem.Challenge.pw_markedblocks_k10_places_made.main.body.getD i (.Pass ⟨0, 0, 0, 0⟩)
def mem (i j : Nat) : Stmt := match top i with
  | .ClassDef _ _ _ body _ _ _ _ _ _ _ => body.getD j (.Pass ⟨0, 0, 0, 0⟩)
  | s => s
def xd_BadLine : XD := ⟨"BadLine", ["line"], [("BadLine", true), ("BadPlace", false)], []⟩
def xd_BadPlace : XD := ⟨"BadPlace", ["word"], [("BadLine", false), ("BadPlace", true)], []⟩
def ck_Place : CK := ⟨"Place", ["side", "line", "last", "lacking"], (some [3, 2, 1, 0]), [("__init__", .df "Place.__init__"), ("is_lacking", .sm "Place.is_lacking"), ("top", .cm "Place.top"), ("bottom", .cm "Place.bottom"), ("after", .cm "Place.after"), ("before", .cm "Place.before"), ("__eq__", .df "Place.__eq__"), ("fields", .df "Place.fields")], [("Place", true)]⟩
def b_is_line : List IS := [
  .ife (.or (.op .not [.op .isi [.loc 0, .cst (.ty "str")]]) (.op (.cmp .Gt) [.op .len [.loc 0], .cst (.int 80)])) [.ret (.cst (.bl false))] [],
  .ret (.op .all [.comp (.chain .LtE .LtE (.cst (.str " ")) (.loc 1) (.cst (.str "~"))) (.nm 1) (.it (.loc 0)) [] [1]])]
def fd_is_line : Fd := ⟨2, 1, [true], b_is_line⟩
def en_is_line : Ent := ⟨"is_line", "is_line", "is_line", true, top 6, ["thing", "sign"], ⟨⟨["thing"], [], none⟩, [], []⟩, fd_is_line⟩
def b_look_choices : List IS := [
  .ife (.op .not [.call "is_line" [true] [.loc 0]]) [.rai xd_BadLine [.loc 0]] [],
  .ife (.and (.op (.cmp .IsNot) [.loc 1, .cst (.bl true)]) (.op (.cmp .IsNot) [.loc 1, .cst (.bl false)])) [.rai xd_BadPlace [.loc 1]] [],
  .ife (.op .not [.cal (.mth (.cst (.cl ck_Place)) "is_lacking" none) [] [true] [.loc 2] [.a 0] none]) [.rai xd_BadPlace [.loc 2]] []]
def fd_look_choices : Fd := ⟨3, 3, [true, true, true], b_look_choices⟩
def en_look_choices : Ent := ⟨"look_choices", "look_choices", "look_choices", true, top 8, ["line", "last", "lacking"], ⟨⟨["line", "last", "lacking"], [], none⟩, [], []⟩, fd_look_choices⟩
def b_Place_init : List IS := [
  .fst 0 "side" (.loc 1),
  .fst 0 "line" (.loc 2),
  .fst 0 "last" (.loc 3),
  .fst 0 "lacking" (.loc 4)]
def fd_Place_init : Fd := ⟨5, 5, [true, true, true, true, true], b_Place_init⟩
def en_Place_init : Ent := ⟨"Place.__init__", "__init__", "Place.__init__", false, mem 9 1, ["self", "side", "line", "last", "lacking"], ⟨⟨["self", "side", "line", "last", "lacking"], [], none⟩, [], []⟩, fd_Place_init⟩
def b_Place_is_lacking : List IS := [
  .ret (.and (.op .isi [.loc 0, .cst (.ty "str")]) (.op (.cmp .In) [.loc 0, .tup [.cst (.str "top"), .cst (.str "bottom"), .cst (.str "refuse")]]))]
def fd_Place_is_lacking : Fd := ⟨1, 1, [true], b_Place_is_lacking⟩
def en_Place_is_lacking : Ent := ⟨"Place.is_lacking", "is_lacking", "Place.is_lacking", false, mem 9 2, ["word"], ⟨⟨["word"], [], none⟩, [], []⟩, fd_Place_is_lacking⟩
def b_Place_top : List IS := [
  .ret (.cal (.newv 0 ck_Place) [] [true, true, true, true] [.cst (.str "top"), .cst .non, .cst .non, .cst .non] [.a 0, .a 1, .a 2, .a 3] none)]
def fd_Place_top : Fd := ⟨1, 1, [true], b_Place_top⟩
def en_Place_top : Ent := ⟨"Place.top", "top", "Place.top", false, mem 9 3, ["cls"], ⟨⟨["cls"], [], none⟩, [], []⟩, fd_Place_top⟩
def b_Place_bottom : List IS := [
  .ret (.cal (.newv 0 ck_Place) [] [true, true, true, true] [.cst (.str "bottom"), .cst .non, .cst .non, .cst .non] [.a 0, .a 1, .a 2, .a 3] none)]
def fd_Place_bottom : Fd := ⟨1, 1, [true], b_Place_bottom⟩
def en_Place_bottom : Ent := ⟨"Place.bottom", "bottom", "Place.bottom", false, mem 9 4, ["cls"], ⟨⟨["cls"], [], none⟩, [], []⟩, fd_Place_bottom⟩
def b_Place_after : List IS := [
  .exp (.call "look_choices" [true, true, true] [.loc 1, .loc 2, .loc 3]),
  .ret (.cal (.newv 0 ck_Place) [] [true, true, true, true] [.cst (.str "after"), .loc 1, .loc 2, .loc 3] [.a 0, .a 1, .a 2, .a 3] none)]
def fd_Place_after : Fd := ⟨4, 4, [true, true, true, true], b_Place_after⟩
def en_Place_after : Ent := ⟨"Place.after", "after", "Place.after", false, mem 9 5, ["cls", "line", "last", "lacking"], ⟨⟨["cls", "line"], ["last", "lacking"], none⟩, [], [("last", .bl true), ("lacking", .str "bottom")]⟩, fd_Place_after⟩
def b_Place_before : List IS := [
  .exp (.call "look_choices" [true, true, true] [.loc 1, .loc 2, .loc 3]),
  .ret (.cal (.newv 0 ck_Place) [] [true, true, true, true] [.cst (.str "before"), .loc 1, .loc 2, .loc 3] [.a 0, .a 1, .a 2, .a 3] none)]
def fd_Place_before : Fd := ⟨4, 4, [true, true, true, true], b_Place_before⟩
def en_Place_before : Ent := ⟨"Place.before", "before", "Place.before", false, mem 9 6, ["cls", "line", "last", "lacking"], ⟨⟨["cls", "line"], ["last", "lacking"], none⟩, [], [("last", .bl false), ("lacking", .str "bottom")]⟩, fd_Place_before⟩
def b_Place_eq : List IS := [
  .ret (.and (.op .isk [.loc 1, .cst (.cl ck_Place)]) (.op (.cmp .Eq) [.cal (.mth (.loc 0) "fields" none) [] [] [] [] none, .cal (.mth (.loc 1) "fields" none) [] [] [] [] none]))]
def fd_Place_eq : Fd := ⟨2, 2, [true, true], b_Place_eq⟩
def en_Place_eq : Ent := ⟨"Place.__eq__", "__eq__", "Place.__eq__", false, mem 9 7, ["self", "other"], ⟨⟨["self", "other"], [], none⟩, [], []⟩, fd_Place_eq⟩
def b_Place_fields : List IS := [
  .ret (.tup [.fld (.loc 0) "side", .fld (.loc 0) "line", .fld (.loc 0) "last", .fld (.loc 0) "lacking"])]
def fd_Place_fields : Fd := ⟨1, 1, [true], b_Place_fields⟩
def en_Place_fields : Ent := ⟨"Place.fields", "fields", "Place.fields", false, mem 9 8, ["self"], ⟨⟨["self"], [], none⟩, [], []⟩, fd_Place_fields⟩
def b_law_draw : List IS := [
  .sub 0 (.cst (.int 3)) (.op (.bin .Add) [.op .ix [.loc 0, .cst (.int 3)], .cst (.int 1)]),
  .ife (.op (.cmp .Eq) [.op .ix [.loc 0, .cst (.int 2)], .cst (.int 0)]) [.set 3 (.op .ix [.op .ix [.loc 0, .cst (.int 0)], .op (.bin .Mod) [.op .int [.op .ix [.loc 0, .cst (.int 1)]], .op .len [.op .ix [.loc 0, .cst (.int 0)]]]]), .sub 0 (.cst (.int 1)) (.op (.bin .Add) [.op .ix [.loc 0, .cst (.int 1)], .cst (.int 1)]), .ife (.op (.cmp .Lt) [.loc 3, .op (.bin .Pow) [.cst (.int 10), .cst (.int 18)]]) [.set 4 (.op (.bin .Mod) [.op .int [.op (.bin .Add) [.op (.bin .Add) [.op (.bin .Mult) [.loc 3, .cst (.int 48271)], .op (.bin .Mult) [.op .ix [.loc 0, .cst (.int 3)], .cst (.int 69621)]], .cst (.int 12345)]], .cst (.int 2147483629)]), .ret (.op (.bin .Mod) [.op (.bin .FloorDiv) [.op (.bin .Mod) [.op .int [.op (.bin .Add) [.op (.bin .Mult) [.loc 4, .cst (.int 16807)], .op (.bin .Mult) [.op .ix [.loc 0, .cst (.int 3)], .cst (.int 104729)]]], .cst (.int 2147483587)], .cst (.int 7)], .loc 1])] [], .sub 0 (.cst (.int 2)) (.loc 3)] [],
  .set 2 (.op (.bin .Mod) [.op .int [.op .ix [.loc 0, .cst (.int 2)]], .loc 1]),
  .sub 0 (.cst (.int 2)) (.op (.bin .FloorDiv) [.op .int [.op .ix [.loc 0, .cst (.int 2)]], .loc 1]),
  .ret (.mov 2)]
def fd_law_draw : Fd := ⟨5, 2, [true, true], b_law_draw⟩
def en_law_draw : Ent := ⟨"_law_draw", "_law_draw", "_law_draw", true, top 11, ["_law_pot_here", "_law_many", "_law_digit", "_law_cell", "_law_mixed"], ⟨⟨["_law_pot_here", "_law_many"], [], none⟩, [], []⟩, fd_law_draw⟩
def b_law_pot : List IS := [
  .ret (.lst [.op (.bin .Add) [.op .list [.loc 0], .op (.bin .Mult) [.lst [.cst (.int 0)], .op .int [.op (.cmp .Eq) [.op .len [.loc 0], .cst (.int 0)]]]], .cst (.int 0), .cst (.int 0), .cst (.int 0)])]
def fd_law_pot : Fd := ⟨1, 1, [true], b_law_pot⟩
def en_law_pot : Ent := ⟨"_law_pot", "_law_pot", "_law_pot", true, top 12, ["_law_script"], ⟨⟨["_law_script"], [], none⟩, [], []⟩, fd_law_pot⟩
def b_law_text : List IS := [
  .set 2 (.cst (.str " !\"#$&'()*+,-./0123456789:;<=>?@ABCDEFGHIJKLMNOPQRSTUVWXYZ[\\]^_`abcdefghijklmnopqrstuvwxyz{|}~")),
  .set 3 (.call "_law_draw" [true, true] [.loc 0, .op (.bin .Add) [.loc 1, .cst (.int 1)]]),
  .ret (.op .join [.cst (.str ""), .comp (.op .ix [.loc 2, .call "_law_draw" [true, true] [.loc 0, .cst (.int 94)]]) (.nm 4) (.rng [.loc 3]) [] [4]])]
def fd_law_text : Fd := ⟨5, 2, [true, true], b_law_text⟩
def en_law_text : Ent := ⟨"_law_text", "_law_text", "_law_text", true, top 13, ["_law_pot_here", "_law_most", "_law_signs", "_law_size", "_law_k"], ⟨⟨["_law_pot_here", "_law_most"], [], none⟩, [], []⟩, fd_law_text⟩
def b_law_is : List IS := [
  .ret (.and (.op .isi [.loc 0, .cst (.ty "bool")]) (.op (.cmp .Eq) [.loc 0, .loc 1]))]
def fd_law_is : Fd := ⟨2, 2, [true, true], b_law_is⟩
def en_law_is : Ent := ⟨"_law_is", "_law_is", "_law_is", true, top 14, ["_law_told", "_law_due"], ⟨⟨["_law_told", "_law_due"], [], none⟩, [], []⟩, fd_law_is⟩
def b_law_fields : List IS := [
  .ret (.tup [.fld (.loc 0) "side", .fld (.loc 0) "line", .fld (.loc 0) "last", .fld (.loc 0) "lacking"])]
def fd_law_fields : Fd := ⟨1, 1, [true], b_law_fields⟩
def en_law_fields : Ent := ⟨"_law_fields", "_law_fields", "_law_fields", true, top 15, ["_law_place"], ⟨⟨["_law_place"], [], none⟩, [], []⟩, fd_law_fields⟩
def b_law_made : List IS := [
  .tryx [.ife (.op (.cmp .Eq) [.loc 0, .cst (.str "after")]) [.set 5 (.cal (.mth (.cst (.cl ck_Place)) "after" none) [] [true, true, true] [.loc 1, .loc 2, .loc 3] [.a 0, .a 1, .a 2] none)] [.set 5 (.cal (.mth (.cst (.cl ck_Place)) "before" none) [] [true, true, true] [.loc 1, .loc 2, .loc 3] [.a 0, .a 1, .a 2] none)]] (.cons "BadLine" (some 4) [.ret (.tup [.cst (.str "line"), .xf "line"])] (.cons "BadPlace" (some 4) [.ret (.tup [.cst (.str "place"), .xf "word"])] .nil)),
  .ret (.call "_law_fields" [true] [.loc 5])]
def fd_law_made : Fd := ⟨6, 4, [true, true, true, true], b_law_made⟩
def en_law_made : Ent := ⟨"_law_made", "_law_made", "_law_made", true, top 16, ["_law_side", "_law_line", "_law_late", "_law_word", "e", "_law_place"], ⟨⟨["_law_side", "_law_line", "_law_late", "_law_word"], [], none⟩, [], []⟩, fd_law_made⟩
def b_law_odd : List IS := [
  .ret (.op .ix [.lst [.cst .non, .cst (.int 0), .cst (.int 1), .cst (.str "last"), .cst (.str "Top"), .cst (.str ""), .tup [.cst (.str "top")], .lst [.cst (.str "refuse")], .cst (.str "first"), .op (.bin .Mult) [.cst (.str "ab"), .cst (.int 41)], .cst (.str "a\n")], .call "_law_draw" [true, true] [.loc 0, .cst (.int 11)]])]
def fd_law_odd : Fd := ⟨1, 1, [true], b_law_odd⟩
def en_law_odd : Ent := ⟨"_law_odd", "_law_odd", "_law_odd", true, top 17, ["_law_pot_here"], ⟨⟨["_law_pot_here"], [], none⟩, [], []⟩, fd_law_odd⟩
def b_law : List IS := [
  .set 1 (.call "_law_pot" [true] [.loc 0]),
  .set 2 (.lst [.cst (.str "top"), .cst (.str "bottom"), .cst (.str "refuse")]),
  .set 3 (.call "_law_text" [true, true] [.loc 1, .cst (.int 9)]),
  .ife (.op (.cmp .NotEq) [.call "_law_fields" [true] [.cal (.mth (.cst (.cl ck_Place)) "top" none) [] [] [] [] none], .tup [.cst (.str "top"), .cst .non, .cst .non, .cst .non]]) [.ret (.cst (.bl false))] [],
  .ife (.or (.op (.cmp .NotEq) [.call "_law_fields" [true] [.cal (.mth (.cst (.cl ck_Place)) "bottom" none) [] [] [] [] none], .tup [.cst (.str "bottom"), .cst .non, .cst .non, .cst .non]]) (.oeq false (.cal (.mth (.cst (.cl ck_Place)) "top" none) [] [] [] [] none) (.cal (.mth (.cst (.cl ck_Place)) "bottom" none) [] [] [] [] none))) [.ret (.cst (.bl false))] [],
  .ife (.dcmp .NotEq none [.call "_law_fields" [true] [.cal (.mth (.cst (.cl ck_Place)) "after" none) [] [true] [.loc 3] [.a 0, .d (.bl true), .d (.str "bottom")] none]] (some true) [.cst (.str "after"), .loc 3, .cst (.bl true), .cst (.str "bottom")]) [.ret (.cst (.bl false))] [],
  .ife (.dcmp .NotEq none [.call "_law_fields" [true] [.cal (.mth (.cst (.cl ck_Place)) "before" none) [] [true] [.loc 3] [.a 0, .d (.bl false), .d (.str "bottom")] none]] (some true) [.cst (.str "before"), .loc 3, .cst (.bl false), .cst (.str "bottom")]) [.ret (.cst (.bl false))] [],
  .fors (.nm 4) (.it (.lst [.cst (.str "after"), .cst (.str "before")])) [.set 5 (.op (.cmp .Eq) [.call "_law_draw" [true, true] [.loc 1, .cst (.int 2)], .cst (.int 1)]), .set 6 (.op .ix [.loc 2, .call "_law_draw" [true, true] [.loc 1, .cst (.int 3)]]), .ife (.dcmp .NotEq none [.call "_law_made" [true, true, true, true] [.loc 4, .loc 3, .loc 5, .loc 6]] (some true) [.loc 4, .loc 3, .loc 5, .loc 6]) [.ret (.cst (.bl false))] [], .set 7 (.call "_law_odd" [true] [.loc 1]), .ife (.and (.op (.cmp .NotIn) [.loc 7, .loc 2]) (.dcmp .NotEq none [.call "_law_made" [true, true, true, true] [.loc 4, .loc 3, .loc 5, .loc 7]] (some true) [.cst (.str "place"), .loc 7])) [.ret (.cst (.bl false))] [], .ife (.dcmp .NotEq none [.call "_law_made" [true, true, true, true] [.loc 4, .loc 3, .loc 7, .call "_law_odd" [true] [.loc 1]]] (some true) [.cst (.str "place"), .loc 7]) [.ret (.cst (.bl false))] [], .set 8 (.op .ix [.lst [.cst .non, .cst (.int 3), .cst (.str "a\n"), .op (.bin .Mult) [.cst (.str "ab"), .cst (.int 41)], .lst [.loc 3]], .call "_law_draw" [true, true] [.loc 1, .cst (.int 5)]]), .ife (.or (.dcmp .NotEq none [.call "_law_made" [true, true, true, true] [.loc 4, .loc 8, .loc 7, .loc 7]] (some true) [.cst (.str "line"), .loc 8]) (.op .not [.call "_law_is" [true, true] [.cal (.mth (.cst (.cl ck_Place)) "is_lacking" none) [] [true] [.loc 7] [.a 0] none, .op (.cmp .In) [.loc 7, .loc 2]]])) [.ret (.cst (.bl false))] [], .set 9 (.cal (.mth (.cst (.cl ck_Place)) "after" none) [] [true, true, true] [.loc 3, .loc 5, .loc 6] [.a 0, .a 1, .a 2] none), .ife (.or (.op .not [.oeq false (.loc 9) (.cal (.mth (.cst (.cl ck_Place)) "after" none) [] [true, true, true] [.loc 3, .loc 6, .loc 5] [.a 0, .a 2, .a 1] none)]) (.oeq false (.loc 9) (.cal (.mth (.cst (.cl ck_Place)) "top" none) [] [] [] [] none))) [.ret (.cst (.bl false))] [], .set 10 (.op .ix [.loc 2, .call "_law_draw" [true, true] [.loc 1, .cst (.int 3)]]), .ife (.op (.cmp .NotEq) [.oeq false (.loc 9) (.cal (.mth (.cst (.cl ck_Place)) "after" none) [] [true, true, true] [.loc 3, .loc 5, .loc 10] [.a 0, .a 1, .a 2] none), .op (.cmp .Eq) [.loc 6, .loc 10]]) [.ret (.cst (.bl false))] [], .ife (.or (.oeq false (.loc 9) (.cal (.mth (.cst (.cl ck_Place)) "after" none) [] [true, true, true] [.loc 3, .op .not [.loc 5], .loc 6] [.a 0, .a 1, .a 2] none)) (.oeq false (.loc 9) (.tup [.loc 4, .loc 3, .loc 5, .loc 6]))) [.ret (.cst (.bl false))] [], .ife (.or (.oeq false (.loc 9) (.cal (.mth (.cst (.cl ck_Place)) "before" none) [] [true, true, true] [.loc 3, .loc 5, .loc 6] [.a 0, .a 1, .a 2] none)) (.oeq false (.loc 9) (.cal (.mth (.cst (.cl ck_Place)) "after" none) [] [true, true] [.op (.bin .Add) [.loc 3, .cst (.str "x")], .loc 5] [.a 0, .a 1, .d (.str "bottom")] none))) [.ret (.cst (.bl false))] []],
  .ret (.op (.cmp .Eq) [.comp (.loc 6) (.nm 6) (.it (.loc 2)) [.op .not [.cal (.mth (.cst (.cl ck_Place)) "is_lacking" none) [] [true] [.loc 6] [.a 0] none]] [6], .lst []])]
def fd_law : Fd := ⟨11, 1, [true], b_law⟩
def en_law : Ent := ⟨"law", "law", "law", true, top 18, ["_law_script", "_law_pot_here", "_law_words", "_law_line", "_law_side", "_law_late", "_law_word", "_law_odd_here", "_law_bad", "_law_place", "_law_other"], ⟨⟨["_law_script"], [], none⟩, [], []⟩, fd_law⟩
def lw : Lw := ⟨[en_is_line, en_look_choices, en_Place_init, en_Place_is_lacking, en_Place_top, en_Place_bottom, en_Place_after, en_Place_before, en_Place_eq, en_Place_fields, en_law_draw, en_law_pot, en_law_text, en_law_is, en_law_fields, en_law_made, en_law_odd, en_law], [("LONGEST", .int 80)], ["all", "bool", "int", "isinstance", "len", "list", "range", "str"], [xd_BadLine, xd_BadPlace], [ck_Place]⟩
theorem c_is_line : lw.entC en_is_line = true := by decide +kernel
theorem c_look_choices : lw.entC en_look_choices = true := by decide +kernel
theorem c_Place_init : lw.entC en_Place_init = true := by decide +kernel
theorem c_Place_is_lacking : lw.entC en_Place_is_lacking = true := by decide +kernel
theorem c_Place_top : lw.entC en_Place_top = true := by decide +kernel
theorem c_Place_bottom : lw.entC en_Place_bottom = true := by decide +kernel
theorem c_Place_after : lw.entC en_Place_after = true := by decide +kernel
theorem c_Place_before : lw.entC en_Place_before = true := by decide +kernel
theorem c_Place_eq : lw.entC en_Place_eq = true := by decide +kernel
theorem c_Place_fields : lw.entC en_Place_fields = true := by decide +kernel
theorem c_law_draw : lw.entC en_law_draw = true := by decide +kernel
theorem c_law_pot : lw.entC en_law_pot = true := by decide +kernel
theorem c_law_text : lw.entC en_law_text = true := by decide +kernel
theorem c_law_is : lw.entC en_law_is = true := by decide +kernel
theorem c_law_fields : lw.entC en_law_fields = true := by decide +kernel
theorem c_law_made : lw.entC en_law_made = true := by decide +kernel
theorem c_law_odd : lw.entC en_law_odd = true := by decide +kernel
theorem c_law : lw.entC en_law = true := by decide +kernel
theorem lwok : lw.ok := ⟨by decide +kernel, fun e he => by
  simp only [lw, List.mem_cons, List.not_mem_nil, or_false] at he
  rcases he with rfl | rfl | rfl | rfl | rfl | rfl | rfl | rfl | rfl | rfl | rfl | rfl | rfl | rfl | rfl | rfl | rfl | rfl
  · exact c_is_line
  · exact c_look_choices
  · exact c_Place_init
  · exact c_Place_is_lacking
  · exact c_Place_top
  · exact c_Place_bottom
  · exact c_Place_after
  · exact c_Place_before
  · exact c_Place_eq
  · exact c_Place_fields
  · exact c_law_draw
  · exact c_law_pot
  · exact c_law_text
  · exact c_law_is
  · exact c_law_fields
  · exact c_law_made
  · exact c_law_odd
  · exact c_law
  ⟩
theorem nd : (lw.es.map (·.key)).Nodup := lwok.1
theorem T_is_line : lw.T ("is_line" : Str) = some fd_is_line := tblOf_mem (e := en_is_line) nd (by simp [lw])
theorem T_look_choices : lw.T ("look_choices" : Str) = some fd_look_choices := tblOf_mem (e := en_look_choices) nd (by simp [lw])
theorem T_Place_init : lw.T ("Place.__init__" : Str) = some fd_Place_init := tblOf_mem (e := en_Place_init) nd (by simp [lw])
theorem T_Place_is_lacking : lw.T ("Place.is_lacking" : Str) = some fd_Place_is_lacking := tblOf_mem (e := en_Place_is_lacking) nd (by simp [lw])
theorem T_Place_top : lw.T ("Place.top" : Str) = some fd_Place_top := tblOf_mem (e := en_Place_top) nd (by simp [lw])
theorem T_Place_bottom : lw.T ("Place.bottom" : Str) = some fd_Place_bottom := tblOf_mem (e := en_Place_bottom) nd (by simp [lw])
theorem T_Place_after : lw.T ("Place.after" : Str) = some fd_Place_after := tblOf_mem (e := en_Place_after) nd (by simp [lw])
theorem T_Place_before : lw.T ("Place.before" : Str) = some fd_Place_before := tblOf_mem (e := en_Place_before) nd (by simp [lw])
theorem T_Place_eq : lw.T ("Place.__eq__" : Str) = some fd_Place_eq := tblOf_mem (e := en_Place_eq) nd (by simp [lw])
theorem T_Place_fields : lw.T ("Place.fields" : Str) = some fd_Place_fields := tblOf_mem (e := en_Place_fields) nd (by simp [lw])
theorem T_law_draw : lw.T ("_law_draw" : Str) = some fd_law_draw := tblOf_mem (e := en_law_draw) nd (by simp [lw])
theorem T_law_pot : lw.T ("_law_pot" : Str) = some fd_law_pot := tblOf_mem (e := en_law_pot) nd (by simp [lw])
theorem T_law_text : lw.T ("_law_text" : Str) = some fd_law_text := tblOf_mem (e := en_law_text) nd (by simp [lw])
theorem T_law_is : lw.T ("_law_is" : Str) = some fd_law_is := tblOf_mem (e := en_law_is) nd (by simp [lw])
theorem T_law_fields : lw.T ("_law_fields" : Str) = some fd_law_fields := tblOf_mem (e := en_law_fields) nd (by simp [lw])
theorem T_law_made : lw.T ("_law_made" : Str) = some fd_law_made := tblOf_mem (e := en_law_made) nd (by simp [lw])
theorem T_law_odd : lw.T ("_law_odd" : Str) = some fd_law_odd := tblOf_mem (e := en_law_odd) nd (by simp [lw])
theorem T_law : lw.T ("law" : Str) = some fd_law := tblOf_mem (e := en_law) nd (by simp [lw])
end K10
end
section
set_option Elab.async false
set_option linter.all false
set_option maxRecDepth 100001
set_option maxHeartbeats 8000001
set_option autoImplicit false
set_option pp.maxSteps 600
namespace K10
open PySem Y
local macro_rules
  | `(tactic| decreasing_trivial) => `(tactic| ((conv => whnf); repeat (first | (refine ⟨_, rfl, (by first | assumption | rfl | exact Fz.h | exact FzL.h | exact fz_lst (by assumption) | exact fz_tup (by assumption) | exact fz_lck (by assumption)), ?_⟩; conv => whnf) | (refine ⟨_, rfl, ?_⟩; conv => whnf) | (refine And.intro rfl ?_; conv => whnf) | (refine And.intro (by first | assumption | decide | omega | exact len_lt rfl) ?_; conv => whnf) | (refine And.intro (by first | assumption | rfl | exact Fz.h | exact FzL.h | exact fz_lst (by assumption) | exact fz_tup (by assumption) | exact fz_lck (by assumption)) ?_; conv => whnf) | (refine And.intro (And.intro (by first | assumption | decide | omega | exact len_lt rfl) (by first | assumption | decide | omega | exact len_lt rfl)) ?_; conv => whnf) | (refine And.intro (And.intro (And.intro (by first | assumption | decide | omega | exact len_lt rfl) (by first | assumption | decide | omega | exact len_lt rfl)) (And.intro (by first | assumption | decide | omega | exact len_lt rfl) (by first | assumption | decide | omega | exact len_lt rfl))) ?_; conv => whnf) | (refine And.intro (And.intro (by first | assumption | rfl | exact Fz.h | exact FzL.h | exact fz_lst (by assumption) | exact fz_tup (by assumption) | exact fz_lck (by assumption)) (And.intro (by first | assumption | rfl | exact Fz.h | exact FzL.h | exact fz_lst (by assumption) | exact fz_tup (by assumption) | exact fz_lck (by assumption)) (by first | assumption | rfl | exact Fz.h | exact FzL.h | exact fz_lst (by assumption) | exact fz_tup (by assumption) | exact fz_lck (by assumption)))) ?_; conv => whnf) | (refine And.intro (by first | exact Or.inl (by decide) | exact Or.inr (by decide)) ?_; conv => whnf) | (refine Or.inl (And.intro (by first | assumption | rfl | exact Fz.h | exact FzL.h | exact fz_lst (by assumption) | exact fz_tup (by assumption) | exact fz_lck (by assumption)) ?_); conv => whnf) | (refine ⟨fun _ => ?_, fun z => Bool.noConfusion z⟩; conv => whnf) | (refine ⟨fun z => Bool.noConfusion z, fun _ => ?_⟩; conv => whnf) | (refine frz_go (by first | assumption | rfl | exact Fz.h | exact FzL.h | exact fz_lst (by assumption) | exact fz_tup (by assumption) | exact fz_lck (by assumption)) ?_; conv => whnf) | (refine frzL_go (by first | assumption | rfl | exact Fz.h | exact FzL.h | exact fz_lst (by assumption) | exact fz_tup (by assumption) | exact fz_lck (by assumption)) ?_; conv => whnf) | (refine lst_go (by first | assumption | rfl | exact Fz.h | exact FzL.h | exact fz_lst (by assumption) | exact fz_tup (by assumption) | exact fz_lck (by assumption)) ?_; conv => whnf) | (refine bool_go (by first | assumption | rfl | exact Fz.h | exact FzL.h | exact fz_lst (by assumption) | exact fz_tup (by assumption) | exact fz_lck (by assumption)) ?_; conv => whnf) | (intro p0 z; rw [PV.fz_frz _ (by first | assumption | rfl | exact Fz.h | exact FzL.h | exact fz_lst (by assumption) | exact fz_tup (by assumption) | exact fz_lck (by assumption))] at z; subst z; conv => whnf))))
local macro_rules
  | `(tactic| decreasing_trivial_pre_omega) => `(tactic| ((conv => whnf); repeat (first | (refine And.intro rfl ?_; conv => whnf) | (refine And.intro (by first | assumption | decide | omega | exact len_lt rfl) ?_; conv => whnf) | (refine And.intro (by first | assumption | rfl | exact Fz.h | exact FzL.h | exact fz_lst (by assumption) | exact fz_tup (by assumption) | exact fz_lck (by assumption)) ?_; conv => whnf) | (refine And.intro (And.intro (by first | assumption | decide | omega | exact len_lt rfl) (by first | assumption | decide | omega | exact len_lt rfl)) ?_; conv => whnf) | (refine And.intro (And.intro (And.intro (by first | assumption | decide | omega | exact len_lt rfl) (by first | assumption | decide | omega | exact len_lt rfl)) (And.intro (by first | assumption | decide | omega | exact len_lt rfl) (by first | assumption | decide | omega | exact len_lt rfl))) ?_; conv => whnf) | (refine And.intro (And.intro (by first | assumption | rfl | exact Fz.h | exact FzL.h | exact fz_lst (by assumption) | exact fz_tup (by assumption) | exact fz_lck (by assumption)) (And.intro (by first | assumption | rfl | exact Fz.h | exact FzL.h | exact fz_lst (by assumption) | exact fz_tup (by assumption) | exact fz_lck (by assumption)) (by first | assumption | rfl | exact Fz.h | exact FzL.h | exact fz_lst (by assumption) | exact fz_tup (by assumption) | exact fz_lck (by assumption)))) ?_; conv => whnf) | (refine And.intro (by first | exact Or.inl (by decide) | exact Or.inr (by decide)) ?_; conv => whnf) | (refine Or.inl (And.intro (by first | assumption | rfl | exact Fz.h | exact FzL.h | exact fz_lst (by assumption) | exact fz_tup (by assumption) | exact fz_lck (by assumption)) ?_); conv => whnf) | (refine ⟨fun _ => ?_, fun z => Bool.noConfusion z⟩; conv => whnf) | (refine ⟨fun z => Bool.noConfusion z, fun _ => ?_⟩; conv => whnf) | (refine frz_go (by first | assumption | rfl | exact Fz.h | exact FzL.h | exact fz_lst (by assumption) | exact fz_tup (by assumption) | exact fz_lck (by assumption)) ?_; conv => whnf) | (refine frzL_go (by first | assumption | rfl | exact Fz.h | exact FzL.h | exact fz_lst (by assumption) | exact fz_tup (by assumption) | exact fz_lck (by assumption)) ?_; conv => whnf) | (refine lst_go (by first | assumption | rfl | exact Fz.h | exact FzL.h | exact fz_lst (by assumption) | exact fz_tup (by assumption) | exact fz_lck (by assumption)) ?_; conv => whnf) | (refine bool_go (by first | assumption | rfl | exact Fz.h | exact FzL.h | exact fz_lst (by assumption) | exact fz_tup (by assumption) | exact fz_lck (by assumption)) ?_; conv => whnf) | (intro p0 z; rw [PV.fz_frz _ (by first | assumption | rfl | exact Fz.h | exact FzL.h | exact fz_lst (by assumption) | exact fz_tup (by assumption) | exact fz_lck (by assumption))] at z; subst z; conv => whnf))))
abbrev cf (n : Nat) : Cf := ⟨callN lw.T 100 (n + 4), lendOf lw.T, 100, none⟩
abbrev plA (a b c d : PV) (o : Bool) : PV := .obj o ck_Place [a, b, c, d]
theorem fields_ok {n : Nat} {a b c d : PV} (ha : a.fz = true) (hb : b.fz = true) (hc : c.fz = true) (hd : d.fz = true) {o : Bool} {Q : PV → Fr → Prop} {E : PX → Fr → Prop} (h : Q (.tup [a, b, c, d]) [some (plA a b c d o)]) :
    zC (callN lw.T 100 (n + 1)) ("_law_fields" : Str) [plA a b c d o] Q E := by
  refine run_ok T_law_fields rfl ?_
  decreasing_trivial
  exact h
theorem aft {n : Nat} {a b c : PV} (ha : Itm a) (hb : Itm b) (hc : Itm c) {Q : PV → Fr → Prop} {E : PX → Fr → Prop}
    (h0 : lnP a = false → E ⟨xd_BadLine, [("line", a)]⟩ [some (.cl ck_Place), some a, some b, some c]) (h1 : lnP a = true → isBl b = false → E ⟨xd_BadPlace, [("word", b)]⟩ [some (.cl ck_Place), some a, some b, some c]) (h2 : lnP a = true → isBl b = true → lackP c = false → E ⟨xd_BadPlace, [("word", c)]⟩ [some (.cl ck_Place), some a, some b, some c])
    (h3 : lnP a = true → isBl b = true → lackP c = true → Q (plA (.str "after") a b c true) [some (.cl ck_Place), some a, some b, some c]) : zC (callN lw.T 100 (n + 3)) ("Place.after" : Str) [.cl ck_Place, a, b, c] Q E :=
  pl_aft (s := "after") T_is_line rfl T_Place_init T_Place_is_lacking rfl T_look_choices T_Place_after ha hb hc h0 h1 h2 h3
theorem bef {n : Nat} {a b c : PV} (ha : Itm a) (hb : Itm b) (hc : Itm c) {Q : PV → Fr → Prop} {E : PX → Fr → Prop}
    (h0 : lnP a = false → E ⟨xd_BadLine, [("line", a)]⟩ [some (.cl ck_Place), some a, some b, some c]) (h1 : lnP a = true → isBl b = false → E ⟨xd_BadPlace, [("word", b)]⟩ [some (.cl ck_Place), some a, some b, some c]) (h2 : lnP a = true → isBl b = true → lackP c = false → E ⟨xd_BadPlace, [("word", c)]⟩ [some (.cl ck_Place), some a, some b, some c])
    (h3 : lnP a = true → isBl b = true → lackP c = true → Q (plA (.str "before") a b c true) [some (.cl ck_Place), some a, some b, some c]) : zC (callN lw.T 100 (n + 3)) ("Place.before" : Str) [.cl ck_Place, a, b, c] Q E :=
  pl_aft (s := "before") T_is_line rfl T_Place_init T_Place_is_lacking rfl T_look_choices T_Place_before ha hb hc h0 h1 h2 h3
theorem made_ok {n : Nat} {s : Str} (hs : s = "after" ∨ s = "before") {a b c : PV} (ha : Itm a) (hb : Itm b) (hc : Itm c) {Q : PV → Fr → Prop} {E : PX → Fr → Prop}
    (h0 : lnP a = false → Q (.tup [.str "line", a]) [some (.str s), some a, some b, some c]) (h1 : lnP a = true → isBl b = false → Q (.tup [.str "place", b]) [some (.str s), some a, some b, some c]) (h2 : lnP a = true → isBl b = true → lackP c = false → Q (.tup [.str "place", c]) [some (.str s), some a, some b, some c])
    (h3 : lnP a = true → isBl b = true → lackP c = true → Q (.tup [.str s, a, b, c]) [some (.str s), some a, some b, some c]) : zC (callN lw.T 100 (n + 4)) ("_law_made" : Str) [.str s, a, b, c] Q E := by
  have fa := itm_fz ha
  have fb := itm_fz hb
  have fc := itm_fz hc
  haveI : Fz a := ⟨fa⟩
  haveI : Fz b := ⟨fb⟩
  haveI : Fz c := ⟨fc⟩
  rcases hs with rfl | rfl
  · refine run_ok T_law_made rfl ?_
    decreasing_trivial
    refine aft ha hb hc (fun k0 => ?_) (fun k0 k1 => ?_) (fun k0 k1 k2 => ?_) fun k0 k1 k2 => ?_
    · decreasing_trivial
      exact h0 k0
    · decreasing_trivial
      exact h1 k0 k1
    · decreasing_trivial
      exact h2 k0 k1 k2
    · decreasing_trivial
      refine fields_ok (a := .str "after") rfl fa fb fc ?_
      decreasing_trivial
      exact h3 k0 k1 k2
  · refine run_ok T_law_made rfl ?_
    decreasing_trivial
    refine bef ha hb hc (fun k0 => ?_) (fun k0 k1 => ?_) (fun k0 k1 k2 => ?_) fun k0 k1 k2 => ?_
    · decreasing_trivial
      exact h0 k0
    · decreasing_trivial
      exact h1 k0 k1
    · decreasing_trivial
      exact h2 k0 k1 k2
    · decreasing_trivial
      refine fields_ok (a := .str "before") rfl fa fb fc ?_
      decreasing_trivial
      exact h3 k0 k1 k2
abbrev wdsL : List Str := ["top", "bottom", "refuse"]
abbrev wdsP (o : Bool) : PV := .lst o [.str "top", .str "bottom", .str "refuse"]
structure Od (p : PV) : Prop where
  itm : Itm p
  nb : isBl p = false
  lk : lackP p = false
  pl : ∃ d, p.dat = some d ∧ d.plain = true ∧ d.depth ≤ 10
  nin : opN (.cmp .In) [p, wdsP true] = some (.bl false)
  nnin : opN (.cmp .NotIn) [p, wdsP true] = some (.bl true)
theorem od_str {s : Str} (h1 : s.length ≤ 10000) (h2 : s ∉ wdsL) : Od (.str s) := ⟨.inl ⟨s, rfl, h1⟩, rfl, by
  unfold lackP
  exact decide_eq_false (by simpa using h2), ⟨_, rfl, rfl, by simp [PyData.depth]⟩, by
  have := n_in (o := true) (w := s) (ls := wdsL)
  simpa [h2] using this, by
  have := n_notin (o := true) (w := s) (ls := wdsL)
  simpa [h2] using this⟩
theorem odd_ok {n : Nat} {cs : List Int} (hc : cs ≠ []) {i r k : Int} {Q : PV → Fr → Prop} {E : PX → Fr → Prop} (h : ∀ p i r k, Od p → Q p [some (potP cs i r k)]) : zC (callN lw.T 100 (n + 2)) ("_law_odd" : Str) [potP cs i r k] Q E := by
  have o1 : Od .non := ⟨.inr (.inl rfl), rfl, rfl, ⟨_, rfl, rfl, by decide⟩, rfl, rfl⟩
  have o2 : ∀ j : Int, Od (.int j) := fun j => ⟨.inr (.inr (.inr (.inl ⟨_, rfl⟩))), rfl, rfl, ⟨_, rfl, rfl, by simp [PyData.depth]⟩, rfl, rfl⟩
  have o3 : Od (.tup [.str "top"]) := ⟨.inr (.inr (.inr (.inr (.inr ⟨_, rfl, rfl⟩)))), rfl, rfl, ⟨_, rfl, rfl, by simp [PyData.depth, PyData.depthAll]⟩, rfl, rfl⟩
  have o4 : Od (.lst false [.str "refuse"]) := ⟨.inr (.inr (.inr (.inr (.inl ⟨_, rfl, rfl⟩)))), rfl, rfl, ⟨_, rfl, rfl, by simp [PyData.depth, PyData.depthAll]⟩, rfl, rfl⟩
  have o5 : Od (.str "last") := od_str (by decide +kernel) (by decide +kernel)
  have o6 : Od (.str "Top") := od_str (by decide +kernel) (by decide +kernel)
  have o7 : Od (.str "") := od_str (by decide +kernel) (by decide +kernel)
  have o8 : Od (.str "first") := od_str (by decide +kernel) (by decide +kernel)
  have o9 : Od (.str (Txt.mul "ab" 41)) := od_str (by decide +kernel) (by decide +kernel)
  have o10 : Od (.str "a\n") := od_str (by decide +kernel) (by decide +kernel)
  have hm : opN (.bin .Mult) [.str "ab", .int 41] = some (.str (Txt.mul "ab" 41)) := rfl
  generalize Txt.mul "ab" 41 = m41 at o9 hm
  refine run_ok T_law_odd rfl ?_
  decreasing_trivial_pre_omega
  refine ⟨_, hm, ?_⟩
  decreasing_trivial
  refine draw_ok T_law_draw hc (by decide) (lg (by decide) (by decide)) fun d i2 r2 k2 hd0 hd1 => ?_
  decreasing_trivial_pre_omega
  rcases (show d = 0 ∨ d = 1 ∨ d = 2 ∨ d = 3 ∨ d = 4 ∨ d = 5 ∨ d = 6 ∨ d = 7 ∨ d = 8 ∨ d = 9 ∨ d = 10 by omega) with rfl | rfl | rfl | rfl | rfl | rfl | rfl | rfl | rfl | rfl | rfl
  · exact ⟨_, rfl, rfl, h _ _ _ _ o1⟩
  · exact ⟨_, rfl, rfl, h _ _ _ _ (o2 0)⟩
  · exact ⟨_, rfl, rfl, h _ _ _ _ (o2 1)⟩
  · exact ⟨_, rfl, rfl, h _ _ _ _ o5⟩
  · exact ⟨_, rfl, rfl, h _ _ _ _ o6⟩
  · exact ⟨_, rfl, rfl, h _ _ _ _ o7⟩
  · exact ⟨_, rfl, rfl, h _ _ _ _ o3⟩
  · exact ⟨_, rfl, rfl, h _ _ _ _ o4⟩
  · exact ⟨_, rfl, rfl, h _ _ _ _ o8⟩
  · exact ⟨_, rfl, rfl, h _ _ _ _ o9⟩
  · exact ⟨_, rfl, rfl, h _ _ _ _ o10⟩
theorem n_neT {s : Str} {p : PV} {d : PyData} (hd : p.dat = some d) (hp : d.plain = true) (hz : d.depth ≤ 10) : opN (.cmp .NotEq) [.tup [.str s, p], .tup [.str s, p]] = some (.bl false) := by
  have e : (PV.tup [.str s, p]).dat = some (.tuple [.str s, d]) := by simp [PV.dat, PV.datL, hd]
  exact n_neR e e (by simp [PyData.plain, PyData.plainAll, hp]) (by simp [PyData.depth, PyData.depthAll]; omega)
theorem n_neB {a b : Bool} : opN (.cmp .NotEq) [.bl a, .bl b] = some (.bl (!decide (a = b))) := by
  rw [n_neD (d := .bool a) (e := .bool b) rfl rfl (by simp [PyData.depth]), eqv_bool]
theorem eq_top {s w l : Str} {b : Bool} (hs : s ≠ "top") : opN (.cmp .Eq) [.tup [.str s, .str l, .bl b, .str w], .tup [.str "top", .non, .non, .non]] = some (.bl false) := by
  rw [n_eqD (d := .tuple [.str s, .str l, .bool b, .str w]) (e := .tuple [.str "top", .none, .none, .none]) rfl rfl (by simp [PyData.depth, PyData.depthAll])]
  simp [PyData.eqv, PyData.eqvAll, eqv_str, hs]
theorem eq_ab {n : Nat} {a b d a' b' d' : Str} {l l' : Bool} {r : Bool} (hr : decide ((a, b, l, d) = (a', b', l', d')) = r) {Q : PV → Fr → Prop} {E : PX → Fr → Prop} (h : ∀ ρ, Q (.bl r) ρ) : zC (callN lw.T 100 (n + 2)) ("Place.__eq__" : Str) [plA (.str a) (.str b) (.bl l) (.str d) false, plA (.str a') (.str b') (.bl l') (.str d') false] Q E :=
  pl_eq rfl rfl T_Place_fields T_Place_eq rfl rfl rfl rfl rfl rfl rfl rfl (by
    have := kd_eq1 kPl (by decide) (x := (a, b, l, d)) (y := (a', b', l', d'))
    rw [hr] at this
    exact this) h
def bodyL : List IS := match b_law.drop 7 with
  | .fors _ _ b :: _ => b
  | _ => []
theorem app_len1 (x o : Str) : (x ++ o).length = x.length + o.length := by
  rw [str_len, str_len, str_len]
  show (x.cps ++ o.cps).toList.length = _
  rw [Array.toList_append, List.length_append]
/-- from the place on -/
theorem t8 {n : Nat} {cs : List Int} (hc : cs ≠ []) {i r k : Int} {s line w : Str} {l : Bool} (hs : s = "after" ∨ s = "before") (hl : Plain 9 line) (hw : w ∈ wdsL) {sc z7 z8 z9 z10 : Option PV} {Q : Fl → Fr → Prop}
    (h : ∀ i r k z7 z8 z9 z10, Q .nx [sc, some (potP cs i r k), some (wdsP true), some (.str line), some (.str s), some (.bl l), some (.str w), z7, z8, z9, z10]) :
    wB (cf n) (bodyL.drop 8) [sc, some (potP cs i r k), some (wdsP true), some (.str line), some (.str s), some (.bl l), some (.str w), z7, z8, z9, z10] Q NE := by
  have lk : ∀ w ∈ wdsL, lackP (.str w) = true := fun w hw => by
    unfold lackP
    exact decide_eq_true (by simpa using hw)
  have si : ∀ w ∈ wdsL, Itm (.str w) := fun w hw => .inl ⟨w, rfl, by
    simp only [List.mem_cons, List.not_mem_nil, or_false] at hw
    rcases hw with rfl | rfl | rfl <;> decide +kernel⟩
  have ll : lnP (.str line) = true := lnOk_plain (by decide) hl
  have li : Itm (.str line) := itm_str ll
  have bi : ∀ b, Itm (.bl b) := fun b => .inr (.inr (.inl ⟨_, rfl⟩))
  have hx1 : ("x" : Str).length = 1 := by decide +kernel
  have lx : LnOk (line ++ ("x" : Str)) = true := by
    simp only [LnOk, Bool.and_eq_true, decide_eq_true_eq]
    refine ⟨by rw [app_len1, hx1]; have := hl.1; omega, List.all_eq_true.mpr fun c hc => ?_⟩
    obtain ⟨y, hy, rfl⟩ := List.mem_map.mp hc
    have e : (line ++ ("x" : Str)).cps.toList = line.cps.toList ++ ("x" : Str).cps.toList := by
      show (line.cps ++ ("x" : Str).cps).toList = _
      rw [Array.toList_append]
    rw [e] at hy
    rcases List.mem_append.mp hy with z | z
    · have := hl.2 y z
      simp [inR, this.1, this.2]
    · have := (show ∀ y ∈ ("x" : Str).cps.toList, inR y = true by decide +kernel) y z
      exact this
  have hne : line ≠ line ++ ("x" : Str) := fun z => by
    have := congrArg Str.length z
    rw [app_len1, hx1] at this
    omega
  have hz : okS (line.length + ("x" : Str).length) = true := okS_of (by rw [hx1]; have := hl.1; omega)
  have ea : ∀ d : Int, 0 ≤ d → d < 3 → ∃ o ∈ wdsL, L2.atI [PV.str "top", .str "bottom", .str "refuse"] d = some (.str o) := fun d h0 h1 => by
    rcases (show d = 0 ∨ d = 1 ∨ d = 2 by omega) with rfl | rfl | rfl
    · exact ⟨"top", by simp, rfl⟩
    · exact ⟨"bottom", by simp, rfl⟩
    · exact ⟨"refuse", by simp, rfl⟩
  decreasing_trivial_pre_omega
  refine aft li (bi l) (si w hw) (fun k0 => ?_) (fun _ k1 => ?_) (fun _ _ k2 => ?_) fun _ _ _ => ?_
  · rw [ll] at k0; cases k0
  · cases k1
  · rw [lk w hw] at k2; cases k2
  decreasing_trivial_pre_omega
  refine aft li (bi l) (si w hw) (fun k0 => ?_) (fun _ k1 => ?_) (fun _ _ k2 => ?_) fun _ _ _ => ?_
  · rw [ll] at k0; cases k0
  · cases k1
  · rw [lk w hw] at k2; cases k2
  decreasing_trivial_pre_omega
  refine eq_ab (decide_eq_true rfl) fun ρ1 => ?_
  decreasing_trivial_pre_omega
  refine pl_top (s := "top") rfl T_Place_init T_Place_top ?_
  decreasing_trivial_pre_omega
  refine pl_eq (ms := ck_Place.ms) (up := ck_Place.up) rfl rfl T_Place_fields T_Place_eq rfl rfl rfl rfl rfl rfl rfl rfl (eq_top (by decide +kernel)) fun ρ2 => ?_
  decreasing_trivial_pre_omega
  refine draw_ok T_law_draw hc (by decide) (lg (by decide) (by decide)) fun d1 i2 r2 k2 hd0 hd1 => ?_
  obtain ⟨o, ho, eo⟩ := ea d1 hd0 hd1
  decreasing_trivial_pre_omega
  refine ⟨_, eo, rfl, ?_⟩
  decreasing_trivial_pre_omega
  refine aft li (bi l) (si o ho) (fun k0 => ?_) (fun _ k1 => ?_) (fun _ _ k2 => ?_) fun _ _ _ => ?_
  · rw [ll] at k0; cases k0
  · cases k1
  · rw [lk o ho] at k2; cases k2
  decreasing_trivial_pre_omega
  refine eq_ab (r := decide (w = o)) (by by_cases q : w = o <;> simp [q]) fun ρ3 => ?_
  decreasing_trivial_pre_omega
  refine ⟨_, n_neB, ?_⟩
  rw [show (!decide (decide (w = o) = decide (w = o))) = false from by simp]
  decreasing_trivial_pre_omega
  refine aft li (bi (!l)) (si w hw) (fun k0 => ?_) (fun _ k1 => ?_) (fun _ _ k2 => ?_) fun _ _ _ => ?_
  · rw [ll] at k0; cases k0
  · cases k1
  · rw [lk w hw] at k2; cases k2
  decreasing_trivial_pre_omega
  refine eq_ab (r := false) (by cases l <;> simp) fun ρ4 => ?_
  decreasing_trivial_pre_omega
  refine pl_eqT (ms := ck_Place.ms) (up := ck_Place.up) T_Place_eq rfl rfl rfl rfl rfl fun ρ5 => ?_
  decreasing_trivial_pre_omega
  refine bef li (bi l) (si w hw) (fun k0 => ?_) (fun _ k1 => ?_) (fun _ _ k2 => ?_) fun _ _ _ => ?_
  · rw [ll] at k0; cases k0
  · cases k1
  · rw [lk w hw] at k2; cases k2
  decreasing_trivial_pre_omega
  refine eq_ab (r := false) (decide_eq_false fun z => absurd (show ("after" : Str) = "before" from congrArg (·.1) z) (by decide +kernel)) fun ρ6 => ?_
  decreasing_trivial_pre_omega
  refine aft (itm_str lx) (bi l) (si "bottom" (by simp)) (fun k0 => ?_) (fun _ k1 => ?_) (fun _ _ k2 => ?_) fun _ _ _ => ?_
  · have k0 : LnOk (line ++ ("x" : Str)) = false := k0
    rw [lx] at k0; cases k0
  · cases k1
  · rw [lk "bottom" (by simp)] at k2; cases k2
  decreasing_trivial_pre_omega
  refine eq_ab (r := false) (decide_eq_false fun z => absurd (congrArg (·.2.1) z) hne) fun ρ7 => ?_
  decreasing_trivial
  exact h _ _ _ _ _ _ _
theorem n_ne4 {a b d : Str} {c : Bool} : opN (.cmp .NotEq) [.tup [.str a, .str b, .bl c, .str d], .tup [.str a, .str b, .bl c, .str d]] = some (.bl false) := by
  have := kd_ne1 kPl (by decide) (x := (a, b, c, d)) (y := (a, b, c, d))
  rw [decide_eq_true rfl] at this
  exact this
theorem bad_ok {line : Str} (d : Int) (h0 : 0 ≤ d) (h1 : d < 5) : ∃ p, L2.atI [PV.non, .int 3, .str "a\n", .str (Txt.mul "ab" 41), .lst false [.str line]] d = some p ∧ Itm p ∧ lnP p = false ∧ ∃ e, p.dat = some e ∧ e.plain = true ∧ e.depth ≤ 10 := by
  have m1 : LnOk (Txt.mul "ab" 41) = false := by decide +kernel
  have m2 : (Txt.mul "ab" 41).length ≤ 10000 := by decide +kernel
  have m3 : LnOk "a\n" = false := by decide +kernel
  have m4 : ("a\n" : Str).length ≤ 10000 := by decide +kernel
  rcases (show d = 0 ∨ d = 1 ∨ d = 2 ∨ d = 3 ∨ d = 4 by omega) with rfl | rfl | rfl | rfl | rfl
  · exact ⟨_, rfl, .inr (.inl rfl), rfl, _, rfl, rfl, by simp [PyData.depth]⟩
  · exact ⟨_, rfl, .inr (.inr (.inr (.inl ⟨_, rfl⟩))), rfl, _, rfl, rfl, by simp [PyData.depth]⟩
  · exact ⟨_, rfl, .inl ⟨_, rfl, m4⟩, m3, _, rfl, rfl, by simp [PyData.depth]⟩
  · exact ⟨_, rfl, .inl ⟨_, rfl, m2⟩, m1, _, rfl, rfl, by simp [PyData.depth]⟩
  · exact ⟨_, rfl, .inr (.inr (.inr (.inr (.inl ⟨_, rfl, rfl⟩)))), rfl, _, rfl, rfl, by simp [PyData.depth, PyData.depthAll]⟩
theorem turn_ok {n : Nat} {cs : List Int} (hc : cs ≠ []) {i r k : Int} {s line : Str} (hs : s = "after" ∨ s = "before") (hl : Plain 9 line) {sc z5 z6 z7 z8 z9 z10 : Option PV} {Q : Fl → Fr → Prop}
    (h : ∀ i r k z5 z6 z7 z8 z9 z10, Q .nx [sc, some (potP cs i r k), some (wdsP true), some (.str line), some (.str s), z5, z6, z7, z8, z9, z10]) :
    wB (cf n) bodyL [sc, some (potP cs i r k), some (wdsP true), some (.str line), some (.str s), z5, z6, z7, z8, z9, z10] Q NE := by
  have lk : ∀ w ∈ wdsL, lackP (.str w) = true := fun w hw => by
    unfold lackP
    exact decide_eq_true (by simpa using hw)
  have si : ∀ w ∈ wdsL, Itm (.str w) := fun w hw => .inl ⟨w, rfl, by
    simp only [List.mem_cons, List.not_mem_nil, or_false] at hw
    rcases hw with rfl | rfl | rfl <;> decide +kernel⟩
  have ll : lnP (.str line) = true := lnOk_plain (by decide) hl
  have li : Itm (.str line) := itm_str ll
  have bi : ∀ b, Itm (.bl b) := fun b => .inr (.inr (.inl ⟨_, rfl⟩))
  have ea : ∀ d : Int, 0 ≤ d → d < 3 → ∃ o ∈ wdsL, L2.atI [PV.str "top", .str "bottom", .str "refuse"] d = some (.str o) := fun d h0 h1 => by
    rcases (show d = 0 ∨ d = 1 ∨ d = 2 by omega) with rfl | rfl | rfl
    · exact ⟨"top", by simp, rfl⟩
    · exact ⟨"bottom", by simp, rfl⟩
    · exact ⟨"refuse", by simp, rfl⟩
  decreasing_trivial_pre_omega
  refine draw_ok T_law_draw hc (by decide) (lg (by decide) (by decide)) fun d0 i1 r1 k1 ha0 ha1 => ?_
  decreasing_trivial_pre_omega
  refine draw_ok T_law_draw hc (by decide) (lg (by decide) (by decide)) fun d1 i2 r2 k2 hd0 hd1 => ?_
  obtain ⟨w, hw, ew⟩ := ea d1 hd0 hd1
  decreasing_trivial_pre_omega
  refine ⟨_, ew, rfl, ?_⟩
  decreasing_trivial_pre_omega
  refine made_ok hs li (bi _) (si w hw) (fun k0 => ?_) (fun _ k1 => ?_) (fun _ _ k2 => ?_) fun _ _ _ => ?_
  · rw [ll] at k0; cases k0
  · cases k1
  · rw [lk w hw] at k2; cases k2
  decreasing_trivial_pre_omega
  refine ⟨_, n_ne4, ?_⟩
  decreasing_trivial_pre_omega
  refine odd_ok hc fun p i3 r3 k3 hp => ?_
  obtain ⟨pd, p1, p2, p3⟩ := hp.pl
  haveI : Fz p := ⟨itm_fz hp.itm⟩
  decreasing_trivial_pre_omega
  refine wOp_go hp.nnin ?_
  decreasing_trivial_pre_omega
  refine made_ok hs li (bi _) hp.itm (fun k0 => ?_) (fun _ k1 => ?_) (fun _ _ _ => ?_) fun _ _ k2 => ?_
  · rw [ll] at k0; cases k0
  · cases k1
  rotate_left
  · rw [hp.lk] at k2; cases k2
  decreasing_trivial_pre_omega
  refine ⟨_, n_neT p1 p2 p3, ?_⟩
  decreasing_trivial_pre_omega
  refine odd_ok hc fun p' i4 r4 k4 hp' => ?_
  haveI : Fz p' := ⟨itm_fz hp'.itm⟩
  decreasing_trivial_pre_omega
  refine made_ok hs li hp.itm hp'.itm (fun k0 => ?_) (fun _ _ => ?_) (fun _ k1 _ => ?_) fun _ k1 _ => ?_
  · rw [ll] at k0; cases k0
  rotate_left
  · rw [hp.nb] at k1; cases k1
  · rw [hp.nb] at k1; cases k1
  decreasing_trivial_pre_omega
  refine ⟨_, n_neT p1 p2 p3, ?_⟩
  have hb := fun d => bad_ok (line := line) d
  have hm : opN (.bin .Mult) [.str "ab", .int 41] = some (.str (Txt.mul "ab" 41)) := rfl
  generalize Txt.mul "ab" 41 = m41 at hb hm
  decreasing_trivial_pre_omega
  refine ⟨_, hm, ?_⟩
  decreasing_trivial_pre_omega
  refine draw_ok T_law_draw hc (by decide) (lg (by decide) (by decide)) fun d5 i5 r5 k5 hb0 hb1 => ?_
  obtain ⟨q, eq, iq, lq, e, q1, q2, q3⟩ := hb d5 hb0 hb1
  haveI : Fz q := ⟨itm_fz iq⟩
  decreasing_trivial_pre_omega
  refine ⟨_, eq, itm_fz iq, ?_⟩
  decreasing_trivial_pre_omega
  refine made_ok hs iq hp.itm hp.itm (fun _ => ?_) (fun k0 _ => ?_) (fun k0 _ _ => ?_) fun k0 _ _ => ?_
  rotate_left
  · rw [lq] at k0; cases k0
  · rw [lq] at k0; cases k0
  · rw [lq] at k0; cases k0
  decreasing_trivial_pre_omega
  refine ⟨_, n_neT q1 q2 q3, ?_⟩
  decreasing_trivial_pre_omega
  refine lack_itm T_Place_is_lacking hp.itm ?_
  rw [hp.lk]
  decreasing_trivial_pre_omega
  refine wOp_go hp.nin ?_
  decreasing_trivial_pre_omega
  refine is_ok T_law_is ?_
  have t := t8 (n := n) hc (i := i5) (r := r5) (k := k5) (l := decide (d0 = 1)) (sc := sc) (z7 := some p) (z8 := some q) (z9 := z9) (z10 := z10) hs hl hw fun i r k z7 z8 z9 z10 => h i r k _ _ z7 z8 z9 z10
  decreasing_trivial_pre_omega
  exact t
theorem law_ok {n : Nat} {ns : List Int} (hl : ns.length ≤ 63) : zC (callN lw.T 100 (n + 5)) ("law" : Str) [.lck (ns.map .int)] (fun p _ => p = .bl true) NE := by
  have lk : ∀ w ∈ wdsL, lackP (.str w) = true := fun w hw => by
    unfold lackP
    exact decide_eq_true (by simpa using hw)
  refine run_ok T_law rfl ?_
  decreasing_trivial
  refine pot_ok T_law_pot hl fun cs hc => ?_
  decreasing_trivial
  refine text_ok T_law_draw T_law_text hc (by decide) (by decide) fun line i1 r1 k1 hln => ?_
  have ll : lnP (.str line) = true := lnOk_plain (by decide) hln
  have li : Itm (.str line) := itm_str ll
  have bi : ∀ b, Itm (.bl b) := fun b => .inr (.inr (.inl ⟨_, rfl⟩))
  have wi : Itm (.str "bottom") := .inl ⟨_, rfl, by decide +kernel⟩
  have e0 : ∀ s : Str, opN (.cmp .NotEq) [.tup [.str s, .non, .non, .non], .tup [.str s, .non, .non, .non]] = some (.bl false) := fun s => n_neR (d := .tuple [.str s, .none, .none, .none]) rfl rfl rfl (by simp [PyData.depth, PyData.depthAll])
  decreasing_trivial_pre_omega
  refine pl_top (s := "top") rfl T_Place_init T_Place_top ?_
  decreasing_trivial_pre_omega
  refine fields_ok (a := .str "top") rfl rfl rfl rfl ?_
  decreasing_trivial_pre_omega
  refine ⟨_, e0 _, ?_⟩
  decreasing_trivial_pre_omega
  refine pl_top (s := "bottom") rfl T_Place_init T_Place_bottom ?_
  decreasing_trivial_pre_omega
  refine fields_ok (a := .str "bottom") rfl rfl rfl rfl ?_
  decreasing_trivial_pre_omega
  refine ⟨_, e0 _, ?_⟩
  decreasing_trivial_pre_omega
  refine pl_top (s := "top") rfl T_Place_init T_Place_top ?_
  decreasing_trivial_pre_omega
  refine pl_top (s := "bottom") rfl T_Place_init T_Place_bottom ?_
  decreasing_trivial_pre_omega
  refine pl_eq (r := false) (ms := ck_Place.ms) (up := ck_Place.up) rfl rfl T_Place_fields T_Place_eq rfl rfl rfl rfl rfl rfl rfl rfl ?_ fun ρ2 => ?_
  · rw [n_eqD (d := .tuple [.str "top", .none, .none, .none]) (e := .tuple [.str "bottom", .none, .none, .none]) rfl rfl (by simp [PyData.depth, PyData.depthAll])]
    have : ("top" : Str) ≠ "bottom" := by decide +kernel
    simp [PyData.eqv, PyData.eqvAll, eqv_str, this]
  decreasing_trivial_pre_omega
  refine aft li (bi true) wi (fun k0 => ?_) (fun _ k1 => ?_) (fun _ _ k2 => ?_) fun _ _ _ => ?_
  · rw [ll] at k0; cases k0
  · cases k1
  · rw [lk "bottom" (by simp)] at k2; cases k2
  decreasing_trivial_pre_omega
  refine fields_ok (a := .str "after") rfl rfl rfl rfl ?_
  decreasing_trivial_pre_omega
  refine ⟨_, n_ne4, ?_⟩
  decreasing_trivial_pre_omega
  refine bef li (bi false) wi (fun k0 => ?_) (fun _ k1 => ?_) (fun _ _ k2 => ?_) fun _ _ _ => ?_
  · rw [ll] at k0; cases k0
  · cases k1
  · rw [lk "bottom" (by simp)] at k2; cases k2
  decreasing_trivial_pre_omega
  refine fields_ok (a := .str "before") rfl rfl rfl rfl ?_
  decreasing_trivial_pre_omega
  refine ⟨_, n_ne4, ?_⟩
  decreasing_trivial
  refine zF_in (fun rest ρ => (∀ x ∈ rest, x = .str "after" ∨ x = .str "before") ∧ ∃ (i r k : Int) (z4 z5 z6 z7 z8 z9 z10 : Option PV), ρ = [some (.lck (ns.map .int)), some (potP cs i r k), some (wdsP true), some (.str line), z4, z5, z6, z7, z8, z9, z10]) ⟨by simp, _, _, _, _, _, _, _, _, _, _, rfl⟩ ?_ ?_
  · rintro _ ⟨_, i, r, k, z4, z5, z6, z7, z8, z9, z10, rfl⟩
    decreasing_trivial
    refine zK_im wdsL (fun _ w => .str w) (fun _ _ => (none : Option Str)) .str (by decide) rfl ?_ fun j w hj C hC => ?_
    · decreasing_trivial_pre_omega
      exact ⟨_, rfl, rfl⟩
    · have hw : w ∈ wdsL := List.mem_of_getElem? hj
      refine ⟨_, rfl, ?_⟩
      decreasing_trivial_pre_omega
      refine lack_str T_Place_is_lacking ?_
      rw [lk w hw]
      decreasing_trivial
      exact hC
  · rintro x rest _ ⟨hx, i, r, k, z4, z5, z6, z7, z8, z9, z10, rfl⟩
    have hx2 : ∀ x ∈ rest, x = .str "after" ∨ x = .str "before" := fun y hy => hx y (List.mem_cons_of_mem _ hy)
    rcases hx x List.mem_cons_self with rfl | rfl
    · exact ⟨_, rfl, turn_ok hc (.inl rfl) hln fun i r k z5 z6 z7 z8 z9 z10 => ⟨hx2, _, _, _, _, _, _, _, _, _, _, rfl⟩⟩
    · exact ⟨_, rfl, turn_ok hc (.inr rfl) hln fun i r k z5 z6 z7 z8 z9 z10 => ⟨hx2, _, _, _, _, _, _, _, _, _, _, rfl⟩⟩
theorem pure (ns : List Int) (h : ns.length ≤ 63) : ∃ as, callN lw.T 100 10 "law" [.lck (ns.map .int)] = .ok (.bl true) as := zC_true (law_ok (n := 5) h)
end K10
end
set_option Elab.async false
set_option linter.all false
set_option maxRecDepth 100000
set_option maxHeartbeats 8000000
set_option autoImplicit false
namespace K10
open PySem Y L2
theorem ents_of {P : Program} {ad : Ad} {K : PySem.W.Frag} {mg : Str → Option Value}
    (h0 : EntOk ad K mg en_is_line)
    (h1 : EntOk ad K mg en_look_choices)
    (h2 : EntOk ad K mg en_Place_init)
    (h3 : EntOk ad K mg en_Place_is_lacking)
    (h4 : EntOk ad K mg en_Place_top)
    (h5 : EntOk ad K mg en_Place_bottom)
    (h6 : EntOk ad K mg en_Place_after)
    (h7 : EntOk ad K mg en_Place_before)
    (h8 : EntOk ad K mg en_Place_eq)
    (h9 : EntOk ad K mg en_Place_fields)
    (h10 : EntOk ad K mg en_law_draw)
    (h11 : EntOk ad K mg en_law_pot)
    (h12 : EntOk ad K mg en_law_text)
    (h13 : EntOk ad K mg en_law_is)
    (h14 : EntOk ad K mg en_law_fields)
    (h15 : EntOk ad K mg en_law_made)
    (h16 : EntOk ad K mg en_law_odd)
    (h17 : EntOk ad K mg en_law)
    : ∀ x ∈ lw.es, EntOk ad K mg x := fun x hx => by
  simp only [lw, List.mem_cons, List.not_mem_nil, or_false] at hx
  rcases hx with rfl | rfl | rfl | rfl | rfl | rfl | rfl | rfl | rfl | rfl | rfl | rfl | rfl | rfl | rfl | rfl | rfl | rfl
  · exact h0
  · exact h1
  · exact h2
  · exact h3
  · exact h4
  · exact h5
  · exact h6
  · exact h7
  · exact h8
  · exact h9
  · exact h10
  · exact h11
  · exact h12
  · exact h13
  · exact h14
  · exact h15
  · exact h16
  · exact h17
theorem blts_of {P : Program} {ad : Ad} {K : PySem.W.Frag} {mg : Str → Option Value}
    (h0 : mg "all" = none)
    (h1 : mg "bool" = none)
    (h2 : mg "int" = none)
    (h3 : mg "isinstance" = none)
    (h4 : mg "len" = none)
    (h5 : mg "list" = none)
    (h6 : mg "range" = none)
    (h7 : mg "str" = none)
    : ∀ x ∈ lw.bl, mg x = none := fun x hx => by
  simp only [lw, List.mem_cons, List.not_mem_nil, or_false] at hx
  rcases hx with rfl | rfl | rfl | rfl | rfl | rfl | rfl | rfl
  · exact h0
  · exact h1
  · exact h2
  · exact h3
  · exact h4
  · exact h5
  · exact h6
  · exact h7
theorem csts_of {P : Program} {ad : Ad} {K : PySem.W.Frag} {mg : Str → Option Value}
    (h0 : CstOk mg ("LONGEST", .int 80))
    : ∀ x ∈ lw.cs, CstOk mg x := fun x hx => by
  simp only [lw, List.mem_cons, List.not_mem_nil, or_false] at hx
  rcases hx with rfl
  · exact h0
theorem xcs_of {P : Program} {ad : Ad} {K : PySem.W.Frag} {mg : Str → Option Value}
    (h0 : XcFact P ad K mg xd_BadLine)
    (h1 : XcFact P ad K mg xd_BadPlace)
    : ∀ x ∈ lw.xs, XcFact P ad K mg x := fun x hx => by
  simp only [lw, List.mem_cons, List.not_mem_nil, or_false] at hx
  rcases hx with rfl | rfl
  · exact h0
  · exact h1
theorem cks_of {P : Program} {ad : Ad} {K : PySem.W.Frag} {mg : Str → Option Value}
    (h0 : ClsF ad K mg ck_Place)
    : ∀ x ∈ lw.ks, ClsF ad K mg x := fun x hx => by
  simp only [lw, List.mem_cons, List.not_mem_nil, or_false] at hx
  rcases hx with rfl
  · exact h0
theorem all_mk {P : Program} {w : World} {K : PySem.W.Frag} {h : Heap} {mg : Str → Option Value} {fa : Addr} (kx : K.In h) (G : h.Ns mainGlobals mg) (hmg : mg "law" = some (.ref fa))
    {f0 f1 f2 f3 f4 f5 f6 f7 f8 f9 f10 f11 f12 f13 f14 f15 f16 f17 : Addr}
    {C0 : Addr}
    (aC0 : PySem.W.nsIn K mainGlobals "Place" = some (some (.ref C0)))
    (pg0 : PySem.W.plainGet K C0 Str.empty = true)
    (ic0 : PySem.W.isClsIn K C0 = true)
    (po0 : PySem.W.plainOver K C0 = true)
    (sa0 : PySem.W.findIn K (.ref C0) "__setattr__" = some (some (.builtin "object.__setattr__")))
    (mk0 : PySem.W.makesIn K C0 = true)
    (kp0 : PySem.W.keepIn K (.ref C0) = true)
    (tC0 : PySem.W.typeIn K (.ref C0) = some (.type "type"))
    (se0 : PySem.W.subIn K (.ref C0) (.ref C0) = some true)
    (cc0 : PySem.W.findIn K (.ref C0) "__class__" = some (some (.builtin "object.__class__")))
    (cg0 : PySem.W.specialIn K (.builtin "object.__class__") "__get__" = some (some (.builtin "getset_descriptor.__get__")))
    (ct0 : PySem.W.takesIn K (.builtin "object.__class__") = some true)
    (co0 : PySem.W.mroIn K C0 (.type "object") = some true)
    (bt0 : BtP K C0 isiOk)
    (nk0 : NkP K C0 ["NoneType", "bool", "int", "str", "list", "tuple"])
    (up0 : UpP K C0 [("Place", true)])
    (sh0 : ShP K C0 ["side", "line", "last", "lacking"] (some [3, 2, 1, 0]))
    (ms0_0 : MsF K C0 "__init__" f2 (.df "Place.__init__"))
    (ms0_1 : MsF K C0 "is_lacking" f3 (.sm "Place.is_lacking"))
    (ms0_2 : MsF K C0 "top" f4 (.cm "Place.top"))
    (ms0_3 : MsF K C0 "bottom" f5 (.cm "Place.bottom"))
    (ms0_4 : MsF K C0 "after" f6 (.cm "Place.after"))
    (ms0_5 : MsF K C0 "before" f7 (.cm "Place.before"))
    (ms0_6 : MsF K C0 "__eq__" f8 (.df "Place.__eq__"))
    (ms0_7 : MsF K C0 "fields" f9 (.df "Place.fields"))
    {o0 n0 : Option Addr} {s0 : Array (Option Value)} {p0 d0 q0 r0 t0 : Value} {v0 : Value}
    (a0 : PySem.W.nsIn K mainGlobals "is_line" = some (some (.ref f0)))
    (l0 : K.lookup f0 = some ⟨p0, o0, .func (PySem.W.fnOf "is_line" "is_line" (defArgs (top 6)) (defBody (top 6)) (defScope (top 6)) .none v0 d0 q0 n0 r0 t0), s0⟩)
    (c0 : PySem.W.codeIn K r0 "is_line" = true)
    (k0 : PySem.W.keepIn K (.ref f0) = true)
    {o1 n1 : Option Addr} {s1 : Array (Option Value)} {p1 d1 q1 r1 t1 : Value} {v1 : Value}
    (a1 : PySem.W.nsIn K mainGlobals "look_choices" = some (some (.ref f1)))
    (l1 : K.lookup f1 = some ⟨p1, o1, .func (PySem.W.fnOf "look_choices" "look_choices" (defArgs (top 8)) (defBody (top 8)) (defScope (top 8)) .none v1 d1 q1 n1 r1 t1), s1⟩)
    (c1 : PySem.W.codeIn K r1 "look_choices" = true)
    (k1 : PySem.W.keepIn K (.ref f1) = true)
    {o2 n2 : Option Addr} {s2 : Array (Option Value)} {p2 d2 q2 r2 t2 : Value} {v2 : Value}
    (a2 : PySem.W.nsIn K mainGlobals "Place.__init__" = some none)
    (l2 : K.lookup f2 = some ⟨p2, o2, .func (PySem.W.fnOf "__init__" "Place.__init__" (defArgs (mem 9 1)) (defBody (mem 9 1)) (defScope (mem 9 1)) .none v2 d2 q2 n2 r2 t2), s2⟩)
    (c2 : PySem.W.codeIn K r2 "Place.__init__" = true)
    {o3 n3 : Option Addr} {s3 : Array (Option Value)} {p3 d3 q3 r3 t3 : Value} {v3 : Value}
    (a3 : PySem.W.nsIn K mainGlobals "Place.is_lacking" = some none)
    (l3 : K.lookup f3 = some ⟨p3, o3, .func (PySem.W.fnOf "is_lacking" "Place.is_lacking" (defArgs (mem 9 2)) (defBody (mem 9 2)) (defScope (mem 9 2)) .none v3 d3 q3 n3 r3 t3), s3⟩)
    (c3 : PySem.W.codeIn K r3 "Place.is_lacking" = true)
    {o4 n4 : Option Addr} {s4 : Array (Option Value)} {p4 d4 q4 r4 t4 : Value} {v4 : Value}
    (a4 : PySem.W.nsIn K mainGlobals "Place.top" = some none)
    (l4 : K.lookup f4 = some ⟨p4, o4, .func (PySem.W.fnOf "top" "Place.top" (defArgs (mem 9 3)) (defBody (mem 9 3)) (defScope (mem 9 3)) .none v4 d4 q4 n4 r4 t4), s4⟩)
    (c4 : PySem.W.codeIn K r4 "Place.top" = true)
    {o5 n5 : Option Addr} {s5 : Array (Option Value)} {p5 d5 q5 r5 t5 : Value} {v5 : Value}
    (a5 : PySem.W.nsIn K mainGlobals "Place.bottom" = some none)
    (l5 : K.lookup f5 = some ⟨p5, o5, .func (PySem.W.fnOf "bottom" "Place.bottom" (defArgs (mem 9 4)) (defBody (mem 9 4)) (defScope (mem 9 4)) .none v5 d5 q5 n5 r5 t5), s5⟩)
    (c5 : PySem.W.codeIn K r5 "Place.bottom" = true)
    {o6 n6 : Option Addr} {s6 : Array (Option Value)} {p6 d6 q6 r6 t6 : Value}
    {D6 : Addr}
    (a6 : PySem.W.nsIn K mainGlobals "Place.after" = some none)
    (l6 : K.lookup f6 = some ⟨p6, o6, .func (PySem.W.fnOf "after" "Place.after" (defArgs (mem 9 5)) (defBody (mem 9 5)) (defScope (mem 9 5)) .none (.ref D6) d6 q6 n6 r6 t6), s6⟩)
    (c6 : PySem.W.codeIn K r6 "Place.after" = true)
    (dk6 : KwdL K D6 [("last", .bl true), ("lacking", .str "bottom")])
    {o7 n7 : Option Addr} {s7 : Array (Option Value)} {p7 d7 q7 r7 t7 : Value}
    {D7 : Addr}
    (a7 : PySem.W.nsIn K mainGlobals "Place.before" = some none)
    (l7 : K.lookup f7 = some ⟨p7, o7, .func (PySem.W.fnOf "before" "Place.before" (defArgs (mem 9 6)) (defBody (mem 9 6)) (defScope (mem 9 6)) .none (.ref D7) d7 q7 n7 r7 t7), s7⟩)
    (c7 : PySem.W.codeIn K r7 "Place.before" = true)
    (dk7 : KwdL K D7 [("last", .bl false), ("lacking", .str "bottom")])
    {o8 n8 : Option Addr} {s8 : Array (Option Value)} {p8 d8 q8 r8 t8 : Value} {v8 : Value}
    (a8 : PySem.W.nsIn K mainGlobals "Place.__eq__" = some none)
    (l8 : K.lookup f8 = some ⟨p8, o8, .func (PySem.W.fnOf "__eq__" "Place.__eq__" (defArgs (mem 9 7)) (defBody (mem 9 7)) (defScope (mem 9 7)) .none v8 d8 q8 n8 r8 t8), s8⟩)
    (c8 : PySem.W.codeIn K r8 "Place.__eq__" = true)
    {o9 n9 : Option Addr} {s9 : Array (Option Value)} {p9 d9 q9 r9 t9 : Value} {v9 : Value}
    (a9 : PySem.W.nsIn K mainGlobals "Place.fields" = some none)
    (l9 : K.lookup f9 = some ⟨p9, o9, .func (PySem.W.fnOf "fields" "Place.fields" (defArgs (mem 9 8)) (defBody (mem 9 8)) (defScope (mem 9 8)) .none v9 d9 q9 n9 r9 t9), s9⟩)
    (c9 : PySem.W.codeIn K r9 "Place.fields" = true)
    {o10 n10 : Option Addr} {s10 : Array (Option Value)} {p10 d10 q10 r10 t10 : Value} {v10 : Value}
    (a10 : PySem.W.nsIn K mainGlobals "_law_draw" = some (some (.ref f10)))
    (l10 : K.lookup f10 = some ⟨p10, o10, .func (PySem.W.fnOf "_law_draw" "_law_draw" (defArgs (top 11)) (defBody (top 11)) (defScope (top 11)) .none v10 d10 q10 n10 r10 t10), s10⟩)
    (c10 : PySem.W.codeIn K r10 "_law_draw" = true)
    (k10 : PySem.W.keepIn K (.ref f10) = true)
    {o11 n11 : Option Addr} {s11 : Array (Option Value)} {p11 d11 q11 r11 t11 : Value} {v11 : Value}
    (a11 : PySem.W.nsIn K mainGlobals "_law_pot" = some (some (.ref f11)))
    (l11 : K.lookup f11 = some ⟨p11, o11, .func (PySem.W.fnOf "_law_pot" "_law_pot" (defArgs (top 12)) (defBody (top 12)) (defScope (top 12)) .none v11 d11 q11 n11 r11 t11), s11⟩)
    (c11 : PySem.W.codeIn K r11 "_law_pot" = true)
    (k11 : PySem.W.keepIn K (.ref f11) = true)
    {o12 n12 : Option Addr} {s12 : Array (Option Value)} {p12 d12 q12 r12 t12 : Value} {v12 : Value}
    (a12 : PySem.W.nsIn K mainGlobals "_law_text" = some (some (.ref f12)))
    (l12 : K.lookup f12 = some ⟨p12, o12, .func (PySem.W.fnOf "_law_text" "_law_text" (defArgs (top 13)) (defBody (top 13)) (defScope (top 13)) .none v12 d12 q12 n12 r12 t12), s12⟩)
    (c12 : PySem.W.codeIn K r12 "_law_text" = true)
    (k12 : PySem.W.keepIn K (.ref f12) = true)
    {o13 n13 : Option Addr} {s13 : Array (Option Value)} {p13 d13 q13 r13 t13 : Value} {v13 : Value}
    (a13 : PySem.W.nsIn K mainGlobals "_law_is" = some (some (.ref f13)))
    (l13 : K.lookup f13 = some ⟨p13, o13, .func (PySem.W.fnOf "_law_is" "_law_is" (defArgs (top 14)) (defBody (top 14)) (defScope (top 14)) .none v13 d13 q13 n13 r13 t13), s13⟩)
    (c13 : PySem.W.codeIn K r13 "_law_is" = true)
    (k13 : PySem.W.keepIn K (.ref f13) = true)
    {o14 n14 : Option Addr} {s14 : Array (Option Value)} {p14 d14 q14 r14 t14 : Value} {v14 : Value}
    (a14 : PySem.W.nsIn K mainGlobals "_law_fields" = some (some (.ref f14)))
    (l14 : K.lookup f14 = some ⟨p14, o14, .func (PySem.W.fnOf "_law_fields" "_law_fields" (defArgs (top 15)) (defBody (top 15)) (defScope (top 15)) .none v14 d14 q14 n14 r14 t14), s14⟩)
    (c14 : PySem.W.codeIn K r14 "_law_fields" = true)
    (k14 : PySem.W.keepIn K (.ref f14) = true)
    {o15 n15 : Option Addr} {s15 : Array (Option Value)} {p15 d15 q15 r15 t15 : Value} {v15 : Value}
    (a15 : PySem.W.nsIn K mainGlobals "_law_made" = some (some (.ref f15)))
    (l15 : K.lookup f15 = some ⟨p15, o15, .func (PySem.W.fnOf "_law_made" "_law_made" (defArgs (top 16)) (defBody (top 16)) (defScope (top 16)) .none v15 d15 q15 n15 r15 t15), s15⟩)
    (c15 : PySem.W.codeIn K r15 "_law_made" = true)
    (k15 : PySem.W.keepIn K (.ref f15) = true)
    {o16 n16 : Option Addr} {s16 : Array (Option Value)} {p16 d16 q16 r16 t16 : Value} {v16 : Value}
    (a16 : PySem.W.nsIn K mainGlobals "_law_odd" = some (some (.ref f16)))
    (l16 : K.lookup f16 = some ⟨p16, o16, .func (PySem.W.fnOf "_law_odd" "_law_odd" (defArgs (top 17)) (defBody (top 17)) (defScope (top 17)) .none v16 d16 q16 n16 r16 t16), s16⟩)
    (c16 : PySem.W.codeIn K r16 "_law_odd" = true)
    (k16 : PySem.W.keepIn K (.ref f16) = true)
    {o17 n17 : Option Addr} {s17 : Array (Option Value)} {p17 d17 q17 r17 t17 : Value} {v17 : Value}
    (a17 : PySem.W.nsIn K mainGlobals "law" = some (some (.ref f17)))
    (l17 : K.lookup f17 = some ⟨p17, o17, .func (PySem.W.fnOf "law" "law" (defArgs (top 18)) (defBody (top 18)) (defScope (top 18)) .none v17 d17 q17 n17 r17 t17), s17⟩)
    (c17 : PySem.W.codeIn K r17 "law" = true)
    (k17 : PySem.W.keepIn K (.ref f17) = true)
    (z0 : PySem.W.nsIn K mainGlobals "all" = some none)
    (z1 : PySem.W.nsIn K mainGlobals "bool" = some none)
    (z2 : PySem.W.nsIn K mainGlobals "int" = some none)
    (z3 : PySem.W.nsIn K mainGlobals "isinstance" = some none)
    (z4 : PySem.W.nsIn K mainGlobals "len" = some none)
    (z5 : PySem.W.nsIn K mainGlobals "list" = some none)
    (z6 : PySem.W.nsIn K mainGlobals "range" = some none)
    (z7 : PySem.W.nsIn K mainGlobals "str" = some none)
    {u0 : Nat}
    (y0 : PySem.W.nsIn K mainGlobals "LONGEST" = some (some (.int 80 u0)))
    {xC0 xI0 xc0 xa0 : Addr} {xo0 xp0 xq0 xr0 xk0 : Value} {xe0 xn0 xm0 xw0 : Option Addr} {xs0 xt0 xu0 : Array (Option Value)} {xy0 xz0 : Value} {xg0 : Array Value} {xh0 xfn0 : Str} {xj0 : Nat}
    {xD0_0 xD0_1 : Addr}
    (aX0 : PySem.W.nsIn K mainGlobals "BadLine" = some (some (.ref xC0)))
    (xsa0 : PySem.W.findIn K (.ref xC0) "__setattr__" = some (some (.builtin "object.__setattr__")))
    (xhd0 : PySem.W.hasDictIn K xC0 = true)
    (xsb0 : PySem.W.subIn K (.ref xC0) (.type "ValueError") = some true)
    (xin0 : PySem.W.excInitIn K xC0 [.type "ValueError", .type "Exception", .type "BaseException", .type "object"] "ValueError.__new__" = true)
    (xov0 : PySem.W.excOver K xC0 [.type "ValueError", .type "Exception", .type "BaseException", .type "object"] = true)
    (xsu0 : PySem.W.ks_superIn K xC0 xC0 "__init__" = some (some (.builtin "ValueError.__init__")))
    (xiC0 : PySem.W.findIn K (.ref xC0) "__init__" = some (some (.ref xI0)))
    (xlk0 : K.lookup xI0 = some ⟨xo0, xe0, .func (PySem.W.ksFn "__init__" xfn0 (defArgs (iniOf (top 2))) (defBody (iniOf (top 2))) (defScope (iniOf (top 2))) .none xk0 xp0 xq0 xn0 (.ref xa0) xr0 xc0), xs0⟩)
    (xcd0 : PySem.W.codeIn K (.ref xa0) xfn0 = true)
    (xlc0 : K.lookup xa0 = some ⟨xy0, xm0, .fields xg0, xt0⟩)
    (xvt0 : xg0[2]? = some (.str xh0 xj0))
    (xhf0 : ((P.main.file : Str) == xh0) = true)
    (xce0 : K.lookup xc0 = some ⟨xz0, xw0, .cell (some (.ref xC0)), xu0⟩)
    (xto0 : (P.main.scope.names.lookup ("super" : Str)).isSome = false)
    (xtk0 : TakeP K xC0 ["line"])
    (xop0 : PySem.W.nsIn K PySem.cStatics "thirdparty.any" = some none)
    (xms0 : PySem.W.nsIn K mainGlobals "super" = some none)
    (xmu0 : PySem.W.mroIn K xC0 (.ref xC0) = some true)
    (xtI0 : PySem.W.typeIn K (.ref xI0) = some (.type "function"))
    (xkC0 : PySem.W.keepIn K (.ref xC0) = true)
    (xeC0 : PySem.W.subIn K (.ref xC0) (.type "BaseException") = some true)
    (xtC0 : PySem.W.typeIn K (.ref xC0) = some (.type "type"))
    (xga0 : PySem.W.findIn K (.ref xC0) "__getattribute__" = some (some (.builtin "BaseException.__getattribute__")))
    (xgg0 : PySem.W.findIn K (.ref xC0) "__getattr__" = some none)
    (xha0 : PySem.W.findIn K (.ref xC0) "__class__" = some (some (.builtin "object.__class__")))
    (xhn0 : PySem.W.specialIn K (.builtin "object.__class__") "__get__" = some (some (.builtin "getset_descriptor.__get__")))
    (xht0 : PySem.W.takesIn K (.builtin "object.__class__") = some true)
    (xhm0 : PySem.W.mroIn K xC0 (.type "object") = some true)
    (xp0_0 : PySem.W.nsIn K mainGlobals "BadLine" = some (some (.ref xD0_0)))
    (xq0_0 : PySem.W.subIn K (.ref xD0_0) (.type "BaseException") = some true)
    (xr0_0 : PySem.W.hasDictIn K xD0_0 = true)
    (xs0_0 : PySem.W.typeIn K (.ref xD0_0) = some (.type "type"))
    (xt0_0 : PySem.W.subIn K (.ref xC0) (.ref xD0_0) = some true)
    (xp1_0 : PySem.W.nsIn K mainGlobals "BadPlace" = some (some (.ref xD0_1)))
    (xq1_0 : PySem.W.subIn K (.ref xD0_1) (.type "BaseException") = some true)
    (xr1_0 : PySem.W.hasDictIn K xD0_1 = true)
    (xs1_0 : PySem.W.typeIn K (.ref xD0_1) = some (.type "type"))
    (xt1_0 : PySem.W.subIn K (.ref xC0) (.ref xD0_1) = some false)
    (xty0 : TysP K xC0 xd_BadLine.ty)
    {xC1 xI1 xc1 xa1 : Addr} {xo1 xp1 xq1 xr1 xk1 : Value} {xe1 xn1 xm1 xw1 : Option Addr} {xs1 xt1 xu1 : Array (Option Value)} {xy1 xz1 : Value} {xg1 : Array Value} {xh1 xfn1 : Str} {xj1 : Nat}
    {xD1_0 xD1_1 : Addr}
    (aX1 : PySem.W.nsIn K mainGlobals "BadPlace" = some (some (.ref xC1)))
    (xsa1 : PySem.W.findIn K (.ref xC1) "__setattr__" = some (some (.builtin "object.__setattr__")))
    (xhd1 : PySem.W.hasDictIn K xC1 = true)
    (xsb1 : PySem.W.subIn K (.ref xC1) (.type "ValueError") = some true)
    (xin1 : PySem.W.excInitIn K xC1 [.type "ValueError", .type "Exception", .type "BaseException", .type "object"] "ValueError.__new__" = true)
    (xov1 : PySem.W.excOver K xC1 [.type "ValueError", .type "Exception", .type "BaseException", .type "object"] = true)
    (xsu1 : PySem.W.ks_superIn K xC1 xC1 "__init__" = some (some (.builtin "ValueError.__init__")))
    (xiC1 : PySem.W.findIn K (.ref xC1) "__init__" = some (some (.ref xI1)))
    (xlk1 : K.lookup xI1 = some ⟨xo1, xe1, .func (PySem.W.ksFn "__init__" xfn1 (defArgs (iniOf (top 3))) (defBody (iniOf (top 3))) (defScope (iniOf (top 3))) .none xk1 xp1 xq1 xn1 (.ref xa1) xr1 xc1), xs1⟩)
    (xcd1 : PySem.W.codeIn K (.ref xa1) xfn1 = true)
    (xlc1 : K.lookup xa1 = some ⟨xy1, xm1, .fields xg1, xt1⟩)
    (xvt1 : xg1[2]? = some (.str xh1 xj1))
    (xhf1 : ((P.main.file : Str) == xh1) = true)
    (xce1 : K.lookup xc1 = some ⟨xz1, xw1, .cell (some (.ref xC1)), xu1⟩)
    (xto1 : (P.main.scope.names.lookup ("super" : Str)).isSome = false)
    (xtk1 : TakeP K xC1 ["word"])
    (xop1 : PySem.W.nsIn K PySem.cStatics "thirdparty.any" = some none)
    (xms1 : PySem.W.nsIn K mainGlobals "super" = some none)
    (xmu1 : PySem.W.mroIn K xC1 (.ref xC1) = some true)
    (xtI1 : PySem.W.typeIn K (.ref xI1) = some (.type "function"))
    (xkC1 : PySem.W.keepIn K (.ref xC1) = true)
    (xeC1 : PySem.W.subIn K (.ref xC1) (.type "BaseException") = some true)
    (xtC1 : PySem.W.typeIn K (.ref xC1) = some (.type "type"))
    (xga1 : PySem.W.findIn K (.ref xC1) "__getattribute__" = some (some (.builtin "BaseException.__getattribute__")))
    (xgg1 : PySem.W.findIn K (.ref xC1) "__getattr__" = some none)
    (xha1 : PySem.W.findIn K (.ref xC1) "__class__" = some (some (.builtin "object.__class__")))
    (xhn1 : PySem.W.specialIn K (.builtin "object.__class__") "__get__" = some (some (.builtin "getset_descriptor.__get__")))
    (xht1 : PySem.W.takesIn K (.builtin "object.__class__") = some true)
    (xhm1 : PySem.W.mroIn K xC1 (.type "object") = some true)
    (xp0_1 : PySem.W.nsIn K mainGlobals "BadLine" = some (some (.ref xD1_0)))
    (xq0_1 : PySem.W.subIn K (.ref xD1_0) (.type "BaseException") = some true)
    (xr0_1 : PySem.W.hasDictIn K xD1_0 = true)
    (xs0_1 : PySem.W.typeIn K (.ref xD1_0) = some (.type "type"))
    (xt0_1 : PySem.W.subIn K (.ref xC1) (.ref xD1_0) = some false)
    (xp1_1 : PySem.W.nsIn K mainGlobals "BadPlace" = some (some (.ref xD1_1)))
    (xq1_1 : PySem.W.subIn K (.ref xD1_1) (.type "BaseException") = some true)
    (xr1_1 : PySem.W.hasDictIn K xD1_1 = true)
    (xs1_1 : PySem.W.typeIn K (.ref xD1_1) = some (.type "type"))
    (xt1_1 : PySem.W.subIn K (.ref xC1) (.ref xD1_1) = some true)
    (xty1 : TysP K xC1 xd_BadPlace.ty)
    : ∃ K : PySem.W.Frag, K.In h ∧ ∃ (fd : FuncData) (sp : Sp), (∀ (s : Shared) (u : Value), BindsTo s fd ⟨[u], []⟩ [("_law_script", u)]) ∧
        (∀ (H : Hp) (a : Addr) (ns : List Int), ns.length ≤ 63 → Only H → SqL K H a (ns.map V.int) → sp [.ref a] H (fun v _ => v = .bl true) fun _ _ _ => False) ∧
        ∀ base : Heap, K.In base → base.Ns mainGlobals mg → FnOk P w K mg base (L2.CX P w) 22 fa fd ["_law_script"] sp := by
  have e2 : (adOf mg [("Place.__init__", f2), ("Place.is_lacking", f3), ("Place.top", f4), ("Place.bottom", f5), ("Place.after", f6), ("Place.before", f7), ("Place.__eq__", f8), ("Place.fields", f9)] lw.ks).nm.fn "Place.__init__" = f2 := adOf_in (PySem.W.mg_none_of kx G a2) rfl
  have e3 : (adOf mg [("Place.__init__", f2), ("Place.is_lacking", f3), ("Place.top", f4), ("Place.bottom", f5), ("Place.after", f6), ("Place.before", f7), ("Place.__eq__", f8), ("Place.fields", f9)] lw.ks).nm.fn "Place.is_lacking" = f3 := adOf_in (PySem.W.mg_none_of kx G a3) rfl
  have e4 : (adOf mg [("Place.__init__", f2), ("Place.is_lacking", f3), ("Place.top", f4), ("Place.bottom", f5), ("Place.after", f6), ("Place.before", f7), ("Place.__eq__", f8), ("Place.fields", f9)] lw.ks).nm.fn "Place.top" = f4 := adOf_in (PySem.W.mg_none_of kx G a4) rfl
  have e5 : (adOf mg [("Place.__init__", f2), ("Place.is_lacking", f3), ("Place.top", f4), ("Place.bottom", f5), ("Place.after", f6), ("Place.before", f7), ("Place.__eq__", f8), ("Place.fields", f9)] lw.ks).nm.fn "Place.bottom" = f5 := adOf_in (PySem.W.mg_none_of kx G a5) rfl
  have e6 : (adOf mg [("Place.__init__", f2), ("Place.is_lacking", f3), ("Place.top", f4), ("Place.bottom", f5), ("Place.after", f6), ("Place.before", f7), ("Place.__eq__", f8), ("Place.fields", f9)] lw.ks).nm.fn "Place.after" = f6 := adOf_in (PySem.W.mg_none_of kx G a6) rfl
  have e7 : (adOf mg [("Place.__init__", f2), ("Place.is_lacking", f3), ("Place.top", f4), ("Place.bottom", f5), ("Place.after", f6), ("Place.before", f7), ("Place.__eq__", f8), ("Place.fields", f9)] lw.ks).nm.fn "Place.before" = f7 := adOf_in (PySem.W.mg_none_of kx G a7) rfl
  have e8 : (adOf mg [("Place.__init__", f2), ("Place.is_lacking", f3), ("Place.top", f4), ("Place.bottom", f5), ("Place.after", f6), ("Place.before", f7), ("Place.__eq__", f8), ("Place.fields", f9)] lw.ks).nm.fn "Place.__eq__" = f8 := adOf_in (PySem.W.mg_none_of kx G a8) rfl
  have e9 : (adOf mg [("Place.__init__", f2), ("Place.is_lacking", f3), ("Place.top", f4), ("Place.bottom", f5), ("Place.after", f6), ("Place.before", f7), ("Place.__eq__", f8), ("Place.fields", f9)] lw.ks).nm.fn "Place.fields" = f9 := adOf_in (PySem.W.mg_none_of kx G a9) rfl
  have F0 : EntOk (adOf mg [("Place.__init__", f2), ("Place.is_lacking", f3), ("Place.top", f4), ("Place.bottom", f5), ("Place.after", f6), ("Place.before", f7), ("Place.__eq__", f8), ("Place.fields", f9)] lw.ks) K mg en_is_line := ent_top kx G a0 l0 c0 k0 dfl_00
  have F1 : EntOk (adOf mg [("Place.__init__", f2), ("Place.is_lacking", f3), ("Place.top", f4), ("Place.bottom", f5), ("Place.after", f6), ("Place.before", f7), ("Place.__eq__", f8), ("Place.fields", f9)] lw.ks) K mg en_look_choices := ent_top kx G a1 l1 c1 k1 dfl_00
  have F2 : EntOk (adOf mg [("Place.__init__", f2), ("Place.is_lacking", f3), ("Place.top", f4), ("Place.bottom", f5), ("Place.after", f6), ("Place.before", f7), ("Place.__eq__", f8), ("Place.fields", f9)] lw.ks) K mg en_Place_init := ent_in e2 l2 c2 dfl_00
  have F3 : EntOk (adOf mg [("Place.__init__", f2), ("Place.is_lacking", f3), ("Place.top", f4), ("Place.bottom", f5), ("Place.after", f6), ("Place.before", f7), ("Place.__eq__", f8), ("Place.fields", f9)] lw.ks) K mg en_Place_is_lacking := ent_in e3 l3 c3 dfl_00
  have F4 : EntOk (adOf mg [("Place.__init__", f2), ("Place.is_lacking", f3), ("Place.top", f4), ("Place.bottom", f5), ("Place.after", f6), ("Place.before", f7), ("Place.__eq__", f8), ("Place.fields", f9)] lw.ks) K mg en_Place_top := ent_in e4 l4 c4 dfl_00
  have F5 : EntOk (adOf mg [("Place.__init__", f2), ("Place.is_lacking", f3), ("Place.top", f4), ("Place.bottom", f5), ("Place.after", f6), ("Place.before", f7), ("Place.__eq__", f8), ("Place.fields", f9)] lw.ks) K mg en_Place_bottom := ent_in e5 l5 c5 dfl_00
  have F6 : EntOk (adOf mg [("Place.__init__", f2), ("Place.is_lacking", f3), ("Place.top", f4), ("Place.bottom", f5), ("Place.after", f6), ("Place.before", f7), ("Place.__eq__", f8), ("Place.fields", f9)] lw.ks) K mg en_Place_after := ent_in e6 l6 c6 (dfl_01 dk6)
  have F7 : EntOk (adOf mg [("Place.__init__", f2), ("Place.is_lacking", f3), ("Place.top", f4), ("Place.bottom", f5), ("Place.after", f6), ("Place.before", f7), ("Place.__eq__", f8), ("Place.fields", f9)] lw.ks) K mg en_Place_before := ent_in e7 l7 c7 (dfl_01 dk7)
  have F8 : EntOk (adOf mg [("Place.__init__", f2), ("Place.is_lacking", f3), ("Place.top", f4), ("Place.bottom", f5), ("Place.after", f6), ("Place.before", f7), ("Place.__eq__", f8), ("Place.fields", f9)] lw.ks) K mg en_Place_eq := ent_in e8 l8 c8 dfl_00
  have F9 : EntOk (adOf mg [("Place.__init__", f2), ("Place.is_lacking", f3), ("Place.top", f4), ("Place.bottom", f5), ("Place.after", f6), ("Place.before", f7), ("Place.__eq__", f8), ("Place.fields", f9)] lw.ks) K mg en_Place_fields := ent_in e9 l9 c9 dfl_00
  have F10 : EntOk (adOf mg [("Place.__init__", f2), ("Place.is_lacking", f3), ("Place.top", f4), ("Place.bottom", f5), ("Place.after", f6), ("Place.before", f7), ("Place.__eq__", f8), ("Place.fields", f9)] lw.ks) K mg en_law_draw := ent_top kx G a10 l10 c10 k10 dfl_00
  have F11 : EntOk (adOf mg [("Place.__init__", f2), ("Place.is_lacking", f3), ("Place.top", f4), ("Place.bottom", f5), ("Place.after", f6), ("Place.before", f7), ("Place.__eq__", f8), ("Place.fields", f9)] lw.ks) K mg en_law_pot := ent_top kx G a11 l11 c11 k11 dfl_00
  have F12 : EntOk (adOf mg [("Place.__init__", f2), ("Place.is_lacking", f3), ("Place.top", f4), ("Place.bottom", f5), ("Place.after", f6), ("Place.before", f7), ("Place.__eq__", f8), ("Place.fields", f9)] lw.ks) K mg en_law_text := ent_top kx G a12 l12 c12 k12 dfl_00
  have F13 : EntOk (adOf mg [("Place.__init__", f2), ("Place.is_lacking", f3), ("Place.top", f4), ("Place.bottom", f5), ("Place.after", f6), ("Place.before", f7), ("Place.__eq__", f8), ("Place.fields", f9)] lw.ks) K mg en_law_is := ent_top kx G a13 l13 c13 k13 dfl_00
  have F14 : EntOk (adOf mg [("Place.__init__", f2), ("Place.is_lacking", f3), ("Place.top", f4), ("Place.bottom", f5), ("Place.after", f6), ("Place.before", f7), ("Place.__eq__", f8), ("Place.fields", f9)] lw.ks) K mg en_law_fields := ent_top kx G a14 l14 c14 k14 dfl_00
  have F15 : EntOk (adOf mg [("Place.__init__", f2), ("Place.is_lacking", f3), ("Place.top", f4), ("Place.bottom", f5), ("Place.after", f6), ("Place.before", f7), ("Place.__eq__", f8), ("Place.fields", f9)] lw.ks) K mg en_law_made := ent_top kx G a15 l15 c15 k15 dfl_00
  have F16 : EntOk (adOf mg [("Place.__init__", f2), ("Place.is_lacking", f3), ("Place.top", f4), ("Place.bottom", f5), ("Place.after", f6), ("Place.before", f7), ("Place.__eq__", f8), ("Place.fields", f9)] lw.ks) K mg en_law_odd := ent_top kx G a16 l16 c16 k16 dfl_00
  have F17 : EntOk (adOf mg [("Place.__init__", f2), ("Place.is_lacking", f3), ("Place.top", f4), ("Place.bottom", f5), ("Place.after", f6), ("Place.before", f7), ("Place.__eq__", f8), ("Place.fields", f9)] lw.ks) K mg en_law := ent_top kx G a17 l17 c17 k17 dfl_00
  have K0 : ClsF (adOf mg [("Place.__init__", f2), ("Place.is_lacking", f3), ("Place.top", f4), ("Place.bottom", f5), ("Place.after", f6), ("Place.before", f7), ("Place.__eq__", f8), ("Place.fields", f9)] lw.ks) K mg ck_Place := ck_mk kx G aC0 pg0 ic0 po0 sa0 mk0 kp0 tC0 se0 cc0 cg0 ct0 co0 bt0 nk0 up0 sh0 ⟨MsF.ok ms0_0 (fun k e => by cases e; exact e2), MsF.ok ms0_1 (fun k e => by cases e; exact e3), MsF.ok ms0_2 (fun k e => by cases e; exact e4), MsF.ok ms0_3 (fun k e => by cases e; exact e5), MsF.ok ms0_4 (fun k e => by cases e; exact e6), MsF.ok ms0_5 (fun k e => by cases e; exact e7), MsF.ok ms0_6 (fun k e => by cases e; exact e8), MsF.ok ms0_7 (fun k e => by cases e; exact e9), trivial⟩ (by decide +kernel) (by simp [lw])
  have Z0 := PySem.W.mg_none_of kx G z0
  have Z1 := PySem.W.mg_none_of kx G z1
  have Z2 := PySem.W.mg_none_of kx G z2
  have Z3 := PySem.W.mg_none_of kx G z3
  have Z4 := PySem.W.mg_none_of kx G z4
  have Z5 := PySem.W.mg_none_of kx G z5
  have Z6 := PySem.W.mg_none_of kx G z6
  have Z7 := PySem.W.mg_none_of kx G z7
  have Y0 := cst_int (PySem.W.mg_of kx G y0)
  have X0 : XcFact P (adOf mg [("Place.__init__", f2), ("Place.is_lacking", f3), ("Place.top", f4), ("Place.bottom", f5), ("Place.after", f6), ("Place.before", f7), ("Place.__eq__", f8), ("Place.fields", f9)] lw.ks) K mg xd_BadLine := xc_mk (d := xd_BadLine) (st := top 2) kx G PySem.F.excBase_ValueError PySem.F.store_ValueError PySem.W.kxs_ValueError aX0 xin0 xov0 xsu0 xsa0 xhd0 xsb0 xiC0 xlk0 xcd0 xlc0 xvt0 xhf0 xce0 xto0
    ⟨_, rfl, rfl⟩ (by decide +kernel) (by decide +kernel) (by decide +kernel) xtk0 xop0 xms0 xmu0 xtI0 xkC0 xeC0 xtC0
    (fun us hl => match us, hl with | [_, _], _ => rfl) xga0 xgg0 xha0 xhn0 xht0 xhm0 ⟨⟨_, xp0_0, xq0_0, xr0_0, xs0_0, xt0_0⟩, ⟨_, xp1_0, xq1_0, xr1_0, xs1_0, xt1_0⟩, trivial⟩ xty0
  have X1 : XcFact P (adOf mg [("Place.__init__", f2), ("Place.is_lacking", f3), ("Place.top", f4), ("Place.bottom", f5), ("Place.after", f6), ("Place.before", f7), ("Place.__eq__", f8), ("Place.fields", f9)] lw.ks) K mg xd_BadPlace := xc_mk (d := xd_BadPlace) (st := top 3) kx G PySem.F.excBase_ValueError PySem.F.store_ValueError PySem.W.kxs_ValueError aX1 xin1 xov1 xsu1 xsa1 xhd1 xsb1 xiC1 xlk1 xcd1 xlc1 xvt1 xhf1 xce1 xto1
    ⟨_, rfl, rfl⟩ (by decide +kernel) (by decide +kernel) (by decide +kernel) xtk1 xop1 xms1 xmu1 xtI1 xkC1 xeC1 xtC1
    (fun us hl => match us, hl with | [_, _], _ => rfl) xga1 xgg1 xha1 xhn1 xht1 xhm1 ⟨⟨_, xp0_1, xq0_1, xr0_1, xs0_1, xt0_1⟩, ⟨_, xp1_1, xq1_1, xr1_1, xs1_1, xt1_1⟩, trivial⟩ xty1
  exact ⟨K, kx, law_end (e := en_law) (dl := [("Place.__init__", f2), ("Place.is_lacking", f3), ("Place.top", f4), ("Place.bottom", f5), ("Place.after", f6), ("Place.before", f7), ("Place.__eq__", f8), ("Place.fields", f9)]) lwok (by simp [lw]) rfl rfl rfl (ents_of (P := P) F0 F1 F2 F3 F4 F5 F6 F7 F8 F9 F10 F11 F12 F13 F14 F15 F16 F17) ⟨_, _, _, _, _, PySem.W.mg_of kx G a17, l17, fun u => rfl⟩ (csts_of (P := P) (ad := (adOf mg [("Place.__init__", f2), ("Place.is_lacking", f3), ("Place.top", f4), ("Place.bottom", f5), ("Place.after", f6), ("Place.before", f7), ("Place.__eq__", f8), ("Place.fields", f9)] lw.ks)) (K := K) Y0) (blts_of (P := P) (ad := (adOf mg [("Place.__init__", f2), ("Place.is_lacking", f3), ("Place.top", f4), ("Place.bottom", f5), ("Place.after", f6), ("Place.before", f7), ("Place.__eq__", f8), ("Place.fields", f9)] lw.ks)) (K := K) Z0 Z1 Z2 Z3 Z4 Z5 Z6 Z7) (xcs_of X0 X1) (cks_of (P := P) K0) hmg 100 10 pure⟩
end K10
open PySem PySem.W PyProof.Rows
set_option maxRecDepth 100002 in
set_option maxHeartbeats 0 in
theorem PySem.Challenge.cw_markedblocks_k10_places_made_holds : PySem.Challenge.rw_markedblocks_k10_places_made.Holds := by
  w_on; o_law; k_head; (case hw => w_witness2)
  k_fill
  refine Y.walk_y (l := PySem.Challenge.rw_markedblocks_k10_places_made) (k := 22) (n := 63) (x := "_law_script") rfl (by decide) rfl ⟨rfl, by decide, by decide⟩ ?F
  case F =>
    intro w mg fa h hy G hmg
    refine' K10.all_mk (PySem.W.kIn_of hy) G hmg ?aC0 ?pg0 ?ic0 ?po0 ?sa0 ?mk0 ?kp0 ?tC0 ?se0 ?cc0 ?cg0 ?ct0 ?co0 ?bt0 ?nk0 ?up0 ?sh0 ?ms0_0 ?ms0_1 ?ms0_2 ?ms0_3 ?ms0_4 ?ms0_5 ?ms0_6 ?ms0_7 ?a0 ?l0 ?c0 ?k0 ?a1 ?l1 ?c1 ?k1 ?a2 ?l2 ?c2 ?a3 ?l3 ?c3 ?a4 ?l4 ?c4 ?a5 ?l5 ?c5 ?a6 ?l6 ?c6 ?dk6 ?a7 ?l7 ?c7 ?dk7 ?a8 ?l8 ?c8 ?a9 ?l9 ?c9 ?a10 ?l10 ?c10 ?k10 ?a11 ?l11 ?c11 ?k11 ?a12 ?l12 ?c12 ?k12 ?a13 ?l13 ?c13 ?k13 ?a14 ?l14 ?c14 ?k14 ?a15 ?l15 ?c15 ?k15 ?a16 ?l16 ?c16 ?k16 ?a17 ?l17 ?c17 ?k17 ?z0 ?z1 ?z2 ?z3 ?z4 ?z5 ?z6 ?z7 ?y0 ?aX0 ?xsa0 ?xhd0 ?xsb0 ?xin0 ?xov0 ?xsu0 ?xiC0 ?xlk0 ?xcd0 ?xlc0 ?xvt0 ?xhf0 ?xce0 ?xto0 ?xtk0 ?xop0 ?xms0 ?xmu0 ?xtI0 ?xkC0 ?xeC0 ?xtC0 ?xga0 ?xgg0 ?xha0 ?xhn0 ?xht0 ?xhm0 ?xp0_0 ?xq0_0 ?xr0_0 ?xs0_0 ?xt0_0 ?xp1_0 ?xq1_0 ?xr1_0 ?xs1_0 ?xt1_0 ?xty0 ?aX1 ?xsa1 ?xhd1 ?xsb1 ?xin1 ?xov1 ?xsu1 ?xiC1 ?xlk1 ?xcd1 ?xlc1 ?xvt1 ?xhf1 ?xce1 ?xto1 ?xtk1 ?xop1 ?xms1 ?xmu1 ?xtI1 ?xkC1 ?xeC1 ?xtC1 ?xga1 ?xgg1 ?xha1 ?xhn1 ?xht1 ?xhm1 ?xp0_1 ?xq0_1 ?xr0_1 ?xs0_1 ?xt0_1 ?xp1_1 ?xq1_1 ?xr1_1 ?xs1_1 ?xt1_1 ?xty1
    (case aC0 => k_is)
    (case pg0 => k_is)
    (case ic0 => k_is)
    (case po0 => k_is)
    (case sa0 => k_is)
    (case mk0 => k_is)
    (case kp0 => k_is)
    (case tC0 => k_is)
    (case se0 => k_is)
    (case cc0 => k_is)
    (case cg0 => k_is)
    (case ct0 => k_is)
    (case co0 => k_is)
    (case bt0 => (refine ⟨?_, ?_, ?_, ?_, ?_, trivial⟩ <;> k_is))
    (case nk0 => (refine ⟨?_, ?_, ?_, ?_, ?_, ?_, trivial⟩ <;> k_is))
    (case up0 => (refine' Y.up_cons ?ua0 ?ub0 ?uc0 ?ud0 ?_; (case ua0 => k_is); (case ub0 => k_is); (case uc0 => k_is); (case ud0 => k_is); exact trivial))
    (case sh0 => (show Y.SlotP _ _ [("side", 3), ("line", 2), ("last", 1), ("lacking", 0)]; refine' Y.sl_cons ?ta0 ?tb0 ?tc0 ?td0 ?te0 (by decide) ?_; (case ta0 => k_is); (case tb0 => k_is); (case tc0 => k_is); (case td0 => k_is); (case te0 => k_is); refine' Y.sl_cons ?ta1 ?tb1 ?tc1 ?td1 ?te1 (by decide) ?_; (case ta1 => k_is); (case tb1 => k_is); (case tc1 => k_is); (case td1 => k_is); (case te1 => k_is); refine' Y.sl_cons ?ta2 ?tb2 ?tc2 ?td2 ?te2 (by decide) ?_; (case ta2 => k_is); (case tb2 => k_is); (case tc2 => k_is); (case td2 => k_is); (case te2 => k_is); refine' Y.sl_cons ?ta3 ?tb3 ?tc3 ?td3 ?te3 (by decide) ?_; (case ta3 => k_is); (case tb3 => k_is); (case tc3 => k_is); (case td3 => k_is); (case te3 => k_is); exact trivial))
    (case ms0_0 => (refine' Y.msf_df ?ma ?mb ?mc ?md; (case ma => k_is); (case mb => k_is); (case mc => k_is); (case md => k_is)))
    (case ms0_1 => (refine' Y.msf_sm ?ma ?mb ?mc ?md ?me; (case ma => k_is); (case mb => k_is); (case mc => k_is); (case md => k_is); (case me => k_is)))
    (case ms0_2 => (refine' Y.msf_cm ?ma ?mb ?mc ?md ?me; (case ma => k_is); (case mb => k_is); (case mc => k_is); (case md => k_is); (case me => k_is)))
    (case ms0_3 => (refine' Y.msf_cm ?ma ?mb ?mc ?md ?me; (case ma => k_is); (case mb => k_is); (case mc => k_is); (case md => k_is); (case me => k_is)))
    (case ms0_4 => (refine' Y.msf_cm ?ma ?mb ?mc ?md ?me; (case ma => k_is); (case mb => k_is); (case mc => k_is); (case md => k_is); (case me => k_is)))
    (case ms0_5 => (refine' Y.msf_cm ?ma ?mb ?mc ?md ?me; (case ma => k_is); (case mb => k_is); (case mc => k_is); (case md => k_is); (case me => k_is)))
    (case ms0_6 => (refine' Y.msf_df ?ma ?mb ?mc ?md; (case ma => k_is); (case mb => k_is); (case mc => k_is); (case md => k_is)))
    (case ms0_7 => (refine' Y.msf_df ?ma ?mb ?mc ?md; (case ma => k_is); (case mb => k_is); (case mc => k_is); (case md => k_is)))
    (case a0 => k_is)
    (case l0 => k_is)
    (case c0 => k_is)
    (case k0 => k_is)
    (case a1 => k_is)
    (case l1 => k_is)
    (case c1 => k_is)
    (case k1 => k_is)
    (case a2 => k_is)
    (case l2 => k_is)
    (case c2 => k_is)
    (case a3 => k_is)
    (case l3 => k_is)
    (case c3 => k_is)
    (case a4 => k_is)
    (case l4 => k_is)
    (case c4 => k_is)
    (case a5 => k_is)
    (case l5 => k_is)
    (case c5 => k_is)
    (case a6 => k_is)
    (case l6 => k_is)
    (case c6 => k_is)
    (case dk6 => (refine' Y.kwd_cons ?ka0 ?kb0 ?_; (case ka0 => k_is); (case kb0 => exact rfl); refine' Y.kwd_cons ?ka1 ?kb1 ?_; (case ka1 => k_is); (case kb1 => exact rfl); exact trivial))
    (case a7 => k_is)
    (case l7 => k_is)
    (case c7 => k_is)
    (case dk7 => (refine' Y.kwd_cons ?ka0 ?kb0 ?_; (case ka0 => k_is); (case kb0 => exact rfl); refine' Y.kwd_cons ?ka1 ?kb1 ?_; (case ka1 => k_is); (case kb1 => exact rfl); exact trivial))
    (case a8 => k_is)
    (case l8 => k_is)
    (case c8 => k_is)
    (case a9 => k_is)
    (case l9 => k_is)
    (case c9 => k_is)
    (case a10 => k_is)
    (case l10 => k_is)
    (case c10 => k_is)
    (case k10 => k_is)
    (case a11 => k_is)
    (case l11 => k_is)
    (case c11 => k_is)
    (case k11 => k_is)
    (case a12 => k_is)
    (case l12 => k_is)
    (case c12 => k_is)
    (case k12 => k_is)
    (case a13 => k_is)
    (case l13 => k_is)
    (case c13 => k_is)
    (case k13 => k_is)
    (case a14 => k_is)
    (case l14 => k_is)
    (case c14 => k_is)
    (case k14 => k_is)
    (case a15 => k_is)
    (case l15 => k_is)
    (case c15 => k_is)
    (case k15 => k_is)
    (case a16 => k_is)
    (case l16 => k_is)
    (case c16 => k_is)
    (case k16 => k_is)
    (case a17 => k_is)
    (case l17 => k_is)
    (case c17 => k_is)
    (case k17 => k_is)
    (case z0 => k_is)
    (case z1 => k_is)
    (case z2 => k_is)
    (case z3 => k_is)
    (case z4 => k_is)
    (case z5 => k_is)
    (case z6 => k_is)
    (case z7 => k_is)
    (case y0 => k_is)
    (case aX0 => k_is)
    (case xsa0 => k_is)
    (case xhd0 => k_is)
    (case xsb0 => k_is)
    (case xin0 => kernel_rfl)
    (case xov0 => kernel_rfl)
    (case xsu0 => ks_is)
    (case xiC0 => k_is)
    (case xlk0 => k_is)
    (case xcd0 => k_is)
    (case xlc0 => k_is)
    (case xvt0 => exact rfl)
    (case xhf0 => kernel_rfl)
    (case xce0 => k_is)
    (case xto0 => kernel_rfl)
    (case xtk0 => (refine ⟨?_, ?_, trivial⟩ <;> k_is))
    (case xop0 => k_is)
    (case xms0 => k_is)
    (case xmu0 => k_is)
    (case xtI0 => k_is)
    (case xkC0 => k_is)
    (case xeC0 => k_is)
    (case xtC0 => k_is)
    (case xga0 => k_is)
    (case xgg0 => k_is)
    (case xha0 => k_is)
    (case xhn0 => k_is)
    (case xht0 => k_is)
    (case xhm0 => k_is)
    (case xp0_0 => k_is)
    (case xq0_0 => k_is)
    (case xr0_0 => k_is)
    (case xs0_0 => k_is)
    (case xt0_0 => k_is)
    (case xp1_0 => k_is)
    (case xq1_0 => k_is)
    (case xr1_0 => k_is)
    (case xs1_0 => k_is)
    (case xt1_0 => k_is)
    (case xty0 => exact trivial)
    (case aX1 => k_is)
    (case xsa1 => k_is)
    (case xhd1 => k_is)
    (case xsb1 => k_is)
    (case xin1 => kernel_rfl)
    (case xov1 => kernel_rfl)
    (case xsu1 => ks_is)
    (case xiC1 => k_is)
    (case xlk1 => k_is)
    (case xcd1 => k_is)
    (case xlc1 => k_is)
    (case xvt1 => exact rfl)
    (case xhf1 => kernel_rfl)
    (case xce1 => k_is)
    (case xto1 => kernel_rfl)
    (case xtk1 => (refine ⟨?_, ?_, trivial⟩ <;> k_is))
    (case xop1 => k_is)
    (case xms1 => k_is)
    (case xmu1 => k_is)
    (case xtI1 => k_is)
    (case xkC1 => k_is)
    (case xeC1 => k_is)
    (case xtC1 => k_is)
    (case xga1 => k_is)
    (case xgg1 => k_is)
    (case xha1 => k_is)
    (case xhn1 => k_is)
    (case xht1 => k_is)
    (case xhm1 => k_is)
    (case xp0_1 => k_is)
    (case xq0_1 => k_is)
    (case xr0_1 => k_is)
    (case xs0_1 => k_is)
    (case xt0_1 => k_is)
    (case xp1_1 => k_is)
    (case xq1_1 => k_is)
    (case xr1_1 => k_is)
    (case xs1_1 => k_is)
    (case xt1_1 => k_is)
    (case xty1 => exact trivial)
