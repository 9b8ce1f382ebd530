import PyProof.Rows.All
import Wide.All
import OpenK.AllK
import Wide.FinOn
import KE.KStateDown
import HandS.ForMost
import HandS.ForExc
import HandS.Defaults
import HandS.ExcInit
import HandS.Wide
import HandS.HeadHook2
import HandS.IsInst
import KE.KExcIs
import HandS.ExcField
import HandS.ExcIs
import HandS.ClsMeth
import HandS.ExcBuiltin
import PyProof.RulesMatch
import HandS.HeadEnd
import HandS.HeadWalk
import HandS.Head0
import HandS.Head1
import HandS.Head2
import HandS.HeadHook1
import PySem.Challenge.RW_untilrows_k57_operations_told
set_option Elab.async false
set_option linter.all false
set_option maxRecDepth 100000
set_option maxHeartbeats 0
namespace L2.DL
open PySem PySem.Spec PyProof.Rows

/-! ### data that will not change any more -/
inductive D where
  | non | bl (b : Bool) | int (i : Int) | str (s : Str)
  | tup (xs : List D) | lst (xs : List D)
  | dic (ks : List Key) (xs : List D)
  | ins (c : Str) (ns : List Str) (xs : List D)
  | cls (c : Str) | ty (n : String)
  | scr (xs : List D)
  | fn (c : Str) (xs : List D)
instance : Inhabited D := ⟨.non⟩

/-! ### data that is owned by one place -/
inductive T where
  | hole
  | exc
  | d (x : D)
  | bor (x : D)
  | lst (ts : List T)
  | dic (ks : List Key) (ts : List T)
  | ins (c : Str) (ns : List Str) (ts : List T)
instance : Inhabited T := ⟨.hole⟩

mutual
def RepD (K : PySem.W.Frag) (G : Hp) : D → V → Prop
  | .non, v => v = .non
  | .bl b, v => v = .bl b
  | .int i, v => v = .int i
  | .str s, v => v = .str s
  | .tup xs, v => ∃ a vs, v = .ref a ∧ SqT K G a vs ∧ RepDs K G xs vs
  | .lst xs, v => ∃ a vs, v = .ref a ∧ G a = some (.lst vs) ∧ RepDs K G xs vs
  | .scr xs, v => ∃ a vs, v = .ref a ∧ SqL K G a vs ∧ RepDs K G xs vs
  | .dic ks xs, v => ∃ a vs, v = .ref a ∧ G a = some (.dK (ks.zip vs)) ∧ ks.length = vs.length ∧ RepDs K G xs vs
  | .ins c ns xs, v => ∃ a dx vs, v = .ref a ∧ G a = some (.ins (He.ga K c) dx (ns.zip vs)) ∧ ns.length = vs.length ∧ RepDs K G xs vs
  | .cls c, v => v = .ref (He.ga K c)
  | .ty n, v => v = .ty n
  | .fn _ _, _ => False
def RepDs (K : PySem.W.Frag) (G : Hp) : List D → List V → Prop
  | [], vs => vs = []
  | x :: xs, vs => ∃ v r, vs = v :: r ∧ RepD K G x v ∧ RepDs K G xs r
end
/-- what is lent to this place, and the exception that is handled -/
structure BH where
  hp : Hp
  exc : Addr
instance : Coe BH Hp := ⟨BH.hp⟩
instance : CoeFun BH (fun _ => Addr → Option HO) := ⟨BH.hp⟩
mutual
def RepT (K : PySem.W.Frag) (B : BH) (G H : Hp) : T → V → List Addr → Prop
  | .hole, _, W => W = []
  | .exc, v, W => W = [] ∧ v = .ref B.exc
  | .d x, v, W => W = [] ∧ RepD K G x v
  | .bor x, v, W => W = [] ∧ RepD K B x v
  | .lst ts, v, W => ∃ a vs W1, v = .ref a ∧ H a = some (.lst vs) ∧ RepTs K B G H ts vs W1 ∧ W.Perm (a :: W1)
  | .dic ks ts, v, W => ∃ a vs W1, v = .ref a ∧ H a = some (.dK (ks.zip vs)) ∧ ks.length = vs.length ∧ RepTs K B G H ts vs W1 ∧ W.Perm (a :: W1)
  | .ins c ns ts, v, W => ∃ a dx vs W1, v = .ref a ∧ H a = some (.ins (He.ga K c) dx (ns.zip vs)) ∧ ns.length = vs.length ∧ RepTs K B G H ts vs W1 ∧ W.Perm (a :: W1)
def RepTs (K : PySem.W.Frag) (B : BH) (G H : Hp) : List T → List V → List Addr → Prop
  | [], vs, W => vs = [] ∧ W = []
  | t :: ts, vs, W => ∃ v r W1 W2, vs = v :: r ∧ RepT K B G H t v W1 ∧ RepTs K B G H ts r W2 ∧ W.Perm (W1 ++ W2)
end
section
variable {K : PySem.W.Frag} {B : BH} {G G' H H' : Hp}
theorem sqT_mono (s : Same G G') {a : Addr} {xs : List V} (h : SqT K G a xs) : SqT K G' a xs := by
  rcases h with (h | ⟨o, h⟩) | h
  · exact .inl (.inl (s _ _ h))
  · exact .inl (.inr ⟨o, s _ _ h⟩)
  · exact .inr h
mutual
theorem repD_mono (s : Same G G') : ∀ (x : D) (v : V), RepD K G x v → RepD K G' x v
  | .non, _, h => h
  | .bl _, _, h => h
  | .int _, _, h => h
  | .str _, _, h => h
  | .tup xs, v, h => by
    obtain ⟨a, vs, e, q, r⟩ := h
    exact ⟨a, vs, e, sqT_mono s q, repDs_mono s xs vs r⟩
  | .lst xs, v, h => by
    obtain ⟨a, vs, e, q, r⟩ := h
    exact ⟨a, vs, e, s _ _ q, repDs_mono s xs vs r⟩
  | .scr xs, v, h => by
    obtain ⟨a, vs, e, q, r⟩ := h
    exact ⟨a, vs, e, s.seq q, repDs_mono s xs vs r⟩
  | .dic ks xs, v, h => by
    obtain ⟨a, vs, e, q, l, r⟩ := h
    exact ⟨a, vs, e, s _ _ q, l, repDs_mono s xs vs r⟩
  | .ins c ns xs, v, h => by
    obtain ⟨a, dx, vs, e, q, l, r⟩ := h
    exact ⟨a, dx, vs, e, s _ _ q, l, repDs_mono s xs vs r⟩
  | .cls _, _, h => h
  | .ty _, _, h => h
  | .fn _ _, _, h => h
theorem repDs_mono (s : Same G G') : ∀ (xs : List D) (vs : List V), RepDs K G xs vs → RepDs K G' xs vs
  | [], _, h => h
  | x :: xs, vs, h => by
    obtain ⟨v, r, e, a, b⟩ := h
    exact ⟨v, r, e, repD_mono s x v a, repDs_mono s xs r b⟩
end
theorem RepD.mono (s : Same G G') {x : D} {v : V} (h : RepD K G x v) : RepD K G' x v := repD_mono s x v h
theorem RepDs.mono (s : Same G G') {x : List D} {v : List V} (h : RepDs K G x v) : RepDs K G' x v := repDs_mono s x v h
theorem RepDs.length : ∀ {xs : List D} {vs : List V}, RepDs K G xs vs → vs.length = xs.length
  | [], _, h => by rw [show _ = _ from h]; rfl
  | _ :: _, _, ⟨_, _, e, _, b⟩ => by rw [e, List.length_cons, List.length_cons, RepDs.length b]
theorem RepTs.length : ∀ {ts : List T} {vs : List V} {W : List Addr}, RepTs K B G H ts vs W → vs.length = ts.length
  | [], _, _, h => by rw [h.1]; rfl
  | _ :: _, _, _, ⟨_, _, _, _, e, _, b, _⟩ => by rw [e, List.length_cons, List.length_cons, RepTs.length b]
theorem RepT.perm : ∀ {t : T} {v : V} {W W' : List Addr}, RepT K B G H t v W → W'.Perm W → RepT K B G H t v W'
  | .hole, _, _, _, h, p => by
    have e : _ = _ := h
    subst e
    exact p.eq_nil
  | .exc, _, _, _, ⟨e, h⟩, p => by
    subst e
    exact ⟨p.eq_nil, h⟩
  | .d _, _, _, _, ⟨e, h⟩, p => by
    subst e
    exact ⟨p.eq_nil, h⟩
  | .bor _, _, _, _, ⟨e, h⟩, p => by
    subst e
    exact ⟨p.eq_nil, h⟩
  | .lst _, _, _, _, ⟨a, vs, W1, e, h, r, q⟩, p => ⟨a, vs, W1, e, h, r, p.trans q⟩
  | .dic _ _, _, _, _, ⟨a, vs, W1, e, h, l, r, q⟩, p => ⟨a, vs, W1, e, h, l, r, p.trans q⟩
  | .ins _ _ _, _, _, _, ⟨a, dx, vs, W1, e, h, l, r, q⟩, p => ⟨a, dx, vs, W1, e, h, l, r, p.trans q⟩
theorem RepTs.perm : ∀ {t : List T} {v : List V} {W W' : List Addr}, RepTs K B G H t v W → W'.Perm W → RepTs K B G H t v W'
  | [], _, _, _, ⟨e, h⟩, p => by
    subst h
    exact ⟨e, p.eq_nil⟩
  | _ :: _, _, _, _, ⟨v, r, W1, W2, e, a, b, q⟩, p => ⟨v, r, W1, W2, e, a, b, p.trans q⟩
/-- what holds at the addresses W -/
def Keep (W : List Addr) (H H' : Hp) : Prop := ∀ a ∈ W, ∀ o, H a = some o → H' a = some o
theorem Keep.sub {W W' : List Addr} (k : Keep W H H') (h : ∀ a ∈ W', a ∈ W) : Keep W' H H' := fun a m => k a (h a m)
mutual
theorem repT_mono (s : Same G G') : ∀ (t : T) (v : V) (W : List Addr), Keep W H H' → RepT K B G H t v W → RepT K B G' H' t v W
  | .hole, _, _, _, h => h
  | .exc, _, _, _, h => h
  | .d x, v, W, _, ⟨e, h⟩ => ⟨e, h.mono s⟩
  | .bor x, v, W, _, h => h
  | .lst ts, v, W, k, ⟨a, vs, W1, e, h, r, q⟩ =>
    ⟨a, vs, W1, e, k a (q.symm.subset (List.mem_cons_self ..)) _ h, repTs_mono s ts vs W1 (k.sub fun b m => q.symm.subset (List.mem_cons_of_mem _ m)) r, q⟩
  | .dic ks ts, v, W, k, ⟨a, vs, W1, e, h, l, r, q⟩ =>
    ⟨a, vs, W1, e, k a (q.symm.subset (List.mem_cons_self ..)) _ h, l, repTs_mono s ts vs W1 (k.sub fun b m => q.symm.subset (List.mem_cons_of_mem _ m)) r, q⟩
  | .ins c ns ts, v, W, k, ⟨a, dx, vs, W1, e, h, l, r, q⟩ =>
    ⟨a, dx, vs, W1, e, k a (q.symm.subset (List.mem_cons_self ..)) _ h, l, repTs_mono s ts vs W1 (k.sub fun b m => q.symm.subset (List.mem_cons_of_mem _ m)) r, q⟩
theorem repTs_mono (s : Same G G') : ∀ (t : List T) (v : List V) (W : List Addr), Keep W H H' → RepTs K B G H t v W → RepTs K B G' H' t v W
  | [], _, _, _, h => h
  | t :: ts, _, W, k, ⟨v, r, W1, W2, e, a, b, q⟩ =>
    ⟨v, r, W1, W2, e, repT_mono s t v W1 (k.sub fun b m => q.symm.subset (List.mem_append_left _ m)) a, repTs_mono s ts r W2 (k.sub fun b m => q.symm.subset (List.mem_append_right _ m)) b, q⟩
end
theorem RepT.mono (s : Same G G') {t : T} {v : V} {W : List Addr} (k : Keep W H H') (h : RepT K B G H t v W) : RepT K B G' H' t v W := repT_mono s t v W k h
theorem RepTs.mono (s : Same G G') {t : List T} {v : List V} {W : List Addr} (k : Keep W H H') (h : RepTs K B G H t v W) : RepTs K B G' H' t v W := repTs_mono s t v W k h
mutual
theorem repT_in : ∀ (t : T) (v : V) (W : List Addr), RepT K B G H t v W → ∀ a ∈ W, ∃ o, H a = some o
  | .hole, _, W, h => fun a m => by
    have e : W = [] := h
    rw [e] at m
    cases m
  | .exc, v, W, ⟨e, h⟩ => fun a m => by
    rw [e] at m
    cases m
  | .d x, v, W, ⟨e, h⟩ => fun a m => by
    rw [e] at m
    cases m
  | .bor x, v, W, ⟨e, h⟩ => fun a m => by
    rw [e] at m
    cases m
  | .lst ts, v, W, ⟨a, vs, W1, e, h, r, q⟩ => fun b m => by
    rcases List.mem_cons.mp (q.subset m) with z | z
    · exact ⟨_, by rw [z]; exact h⟩
    · exact repTs_in ts vs W1 r b z
  | .dic ks ts, v, W, ⟨a, vs, W1, e, h, l, r, q⟩ => fun b m => by
    rcases List.mem_cons.mp (q.subset m) with z | z
    · exact ⟨_, by rw [z]; exact h⟩
    · exact repTs_in ts vs W1 r b z
  | .ins c ns ts, v, W, ⟨a, dx, vs, W1, e, h, l, r, q⟩ => fun b m => by
    rcases List.mem_cons.mp (q.subset m) with z | z
    · exact ⟨_, by rw [z]; exact h⟩
    · exact repTs_in ts vs W1 r b z
theorem repTs_in : ∀ (t : List T) (v : List V) (W : List Addr), RepTs K B G H t v W → ∀ a ∈ W, ∃ o, H a = some o
  | [], _, W, ⟨_, e⟩ => fun a m => by
    rw [e] at m
    cases m
  | t :: ts, _, W, ⟨v, r, W1, W2, e, a, b, q⟩ => fun c m => by
    rcases List.mem_append.mp (q.subset m) with z | z
    · exact repT_in t v W1 a c z
    · exact repTs_in ts r W2 b c z
end
/-- owned data as frozen data -/
def T.frz : T → D
  | .hole => .non
  | .exc => .non
  | .d x => x
  | .bor x => x
  | .lst ts => .lst (go ts)
  | .dic ks ts => .dic ks (go ts)
  | .ins c ns ts => .ins c ns (go ts)
where go : List T → List D
  | [] => []
  | t :: r => t.frz :: go r
theorem T.frz_go (ts : List T) : T.frz.go ts = ts.map T.frz := by
  induction ts with
  | nil => rfl
  | cons t r ih => rw [T.frz.go, ih]; rfl
/-- no hole within -/
def T.full : T → Bool
  | .hole => false
  | .exc => false
  | .d _ => true
  | .bor _ => false
  | .lst ts => go ts
  | .dic _ ts => go ts
  | .ins _ _ ts => go ts
where go : List T → Bool
  | [] => true
  | t :: r => t.full && go r
mutual
theorem repT_frz (s : Same G H) : ∀ (t : T) (v : V) (W : List Addr), t.full = true → RepT K B G H t v W → (∀ a ∈ W, ∀ o, H a = some o → G' a = some o) → Same G G' → RepD K G' t.frz v
  | .hole, _, _, f, _, _, _ => by cases f
  | .exc, _, _, f, _, _, _ => by cases f
  | .d x, v, W, _, ⟨e, h⟩, k, s' => h.mono s'
  | .bor _, _, _, f, _, _, _ => by cases f
  | .lst ts, v, W, f, ⟨a, vs, W1, e, h, r, q⟩, k, s' =>
    ⟨a, vs, e, k a (q.symm.subset (List.mem_cons_self ..)) _ h, repTs_frz s ts vs W1 f r (fun b m => k b (q.symm.subset (List.mem_cons_of_mem _ m))) s'⟩
  | .dic ks ts, v, W, f, ⟨a, vs, W1, e, h, l, r, q⟩, k, s' =>
    ⟨a, vs, e, k a (q.symm.subset (List.mem_cons_self ..)) _ h, l, repTs_frz s ts vs W1 f r (fun b m => k b (q.symm.subset (List.mem_cons_of_mem _ m))) s'⟩
  | .ins c ns ts, v, W, f, ⟨a, dx, vs, W1, e, h, l, r, q⟩, k, s' =>
    ⟨a, dx, vs, e, k a (q.symm.subset (List.mem_cons_self ..)) _ h, l, repTs_frz s ts vs W1 f r (fun b m => k b (q.symm.subset (List.mem_cons_of_mem _ m))) s'⟩
theorem repTs_frz (s : Same G H) : ∀ (t : List T) (v : List V) (W : List Addr), T.full.go t = true → RepTs K B G H t v W → (∀ a ∈ W, ∀ o, H a = some o → G' a = some o) → Same G G' → RepDs K G' (T.frz.go t) v
  | [], _, _, _, ⟨e, _⟩, _, _ => e
  | t :: ts, _, W, f, ⟨v, r, W1, W2, e, a, b, q⟩, k, s' => by
    obtain ⟨f1, f2⟩ := He.ba f
    exact ⟨v, r, e, repT_frz s t v W1 f1 a (fun b m => k b (q.symm.subset (List.mem_append_left _ m))) s', repTs_frz s ts r W2 f2 b (fun b m => k b (q.symm.subset (List.mem_append_right _ m))) s'⟩
end
end

/-! ### the slots -/
abbrev Env := List T
def RepO (K : PySem.W.Frag) (B : BH) (G H : Hp) (t : T) (o : Option V) (W : List Addr) : Prop := (t = .hole ∧ W = []) ∨ ∃ v, o = some v ∧ RepT K B G H t v W
def RepE (K : PySem.W.Frag) (B : BH) (G H : Hp) : Env → St → List Addr → Prop
  | [], σ, W => σ = [] ∧ W = []
  | t :: δ, σ, W => ∃ o r W1 W2, σ = o :: r ∧ RepO K B G H t o W1 ∧ RepE K B G H δ r W2 ∧ W.Perm (W1 ++ W2)
section
variable {K : PySem.W.Frag} {B : BH} {G G' H H' : Hp}
theorem RepO.mono (s : Same G G') {t : T} {o : Option V} {W : List Addr} (k : Keep W H H') (h : RepO K B G H t o W) : RepO K B G' H' t o W := by
  rcases h with h | ⟨v, e, h⟩
  · exact .inl h
  · exact .inr ⟨v, e, h.mono s k⟩
theorem RepE.mono (s : Same G G') : ∀ {δ : Env} {σ : St} {W : List Addr}, Keep W H H' → RepE K B G H δ σ W → RepE K B G' H' δ σ W
  | [], _, _, _, h => h
  | _ :: _, _, _, k, ⟨o, r, W1, W2, e, a, b, q⟩ =>
    ⟨o, r, W1, W2, e, a.mono s (k.sub fun b m => q.symm.subset (List.mem_append_left _ m)), RepE.mono s (k.sub fun b m => q.symm.subset (List.mem_append_right _ m)) b, q⟩
theorem RepE.perm : ∀ {δ : Env} {σ : St} {W W' : List Addr}, RepE K B G H δ σ W → W'.Perm W → RepE K B G H δ σ W'
  | [], _, _, _, ⟨e, h⟩, p => by
    subst h
    exact ⟨e, p.eq_nil⟩
  | _ :: _, _, _, _, ⟨o, r, W1, W2, e, a, b, q⟩, p => ⟨o, r, W1, W2, e, a, b, p.trans q⟩
theorem RepE.length : ∀ {δ : Env} {σ : St} {W : List Addr}, RepE K B G H δ σ W → σ.length = δ.length
  | [], _, _, h => by rw [h.1]; rfl
  | _ :: _, _, _, ⟨_, _, _, _, e, _, b, _⟩ => by rw [e, List.length_cons, List.length_cons, RepE.length b]
theorem RepE.in_ : ∀ {δ : Env} {σ : St} {W : List Addr}, RepE K B G H δ σ W → ∀ a ∈ W, ∃ o, H a = some o
  | [], _, _, h => fun a m => by rw [h.2] at m; cases m
  | _ :: _, _, _, ⟨o, r, W1, W2, e, a, b, q⟩ => fun c m => by
    rcases List.mem_append.mp (q.subset m) with z | z
    · rcases a with ⟨_, w⟩ | ⟨v, _, h⟩
      · rw [w] at z; cases z
      · exact repT_in _ _ _ h c z
    · exact b.in_ c z
/-- a slot taken out -/
theorem RepE.take : ∀ {δ : Env} {σ : St} {W : List Addr} {i : Nat} {t : T}, RepE K B G H δ σ W → δ[i]? = some t →
    ∃ o W1 W2, σ[i]? = some o ∧ RepO K B G H t o W1 ∧ RepE K B G H (δ.set i .hole) σ W2 ∧ W.Perm (W1 ++ W2)
  | [], _, _, _, _, _, h => by cases h
  | _ :: _, _, _, 0, _, ⟨o, r, W1, W2, e, a, b, q⟩, h => by
    cases h
    exact ⟨o, W1, W2, by rw [e]; rfl, a, ⟨o, r, [], W2, e, .inl ⟨rfl, rfl⟩, b, List.Perm.refl _⟩, q⟩
  | t0 :: δ, σ, W, i + 1, t, ⟨o, r, W1, W2, e, a, b, q⟩, h => by
    obtain ⟨o', W3, W4, e1, a1, b1, q1⟩ := RepE.take (i := i) b (by simpa using h)
    refine ⟨o', W3, W1 ++ W4, by rw [e]; simpa using e1, a1, ⟨o, r, W1, W4, e, a, b1, List.Perm.refl _⟩, ?_⟩
    refine q.trans ((List.Perm.append_left W1 q1).trans ?_)
    rw [← List.append_assoc, ← List.append_assoc]
    exact List.Perm.append_right W4 List.perm_append_comm
/-- a slot put in: V's slot as it is -/
theorem RepE.put : ∀ {δ : Env} {σ : St} {W : List Addr} {i : Nat} {t : T} {o : Option V} {W1 : List Addr}, RepE K B G H (δ.set i .hole) σ W → σ[i]? = some o → RepO K B G H t o W1 → RepE K B G H (δ.set i t) σ (W1 ++ W)
  | [], _, _, _, _, _, _, h, e, _ => by
    rw [h.1] at e
    simp at e
  | _ :: _, _, _, 0, _, _, W3, ⟨o, r, W1, W2, e, a, b, q⟩, e1, h => by
    rw [e] at e1
    cases e1
    have w : W1 = [] := by
      rcases a with ⟨_, w⟩ | ⟨v, _, w⟩
      · exact w
      · exact w
    subst w
    exact ⟨_, r, W3, W2, e, h, b, List.Perm.append_left _ q⟩
  | t0 :: δ, σ, W, i + 1, t, o', W3, ⟨o, r, W1, W2, e, a, b, q⟩, e1, h => by
    rw [e] at e1
    have b1 := RepE.put (i := i) (t := t) b (by simpa using e1) h
    refine ⟨o, r, W1, W3 ++ W2, e, a, b1, (List.Perm.append_left W3 q).trans ?_⟩
    rw [← List.append_assoc, ← List.append_assoc]
    exact List.Perm.append_right W2 List.perm_append_comm
/-- a slot stored -/
theorem RepE.store : ∀ {δ : Env} {σ : St} {W : List Addr} {i : Nat} {t : T} {v : V} {W1 : List Addr}, RepE K B G H (δ.set i .hole) σ W → i < δ.length → RepT K B G H t v W1 → RepE K B G H (δ.set i t) (σ.set i (some v)) (W1 ++ W)
  | [], _, _, _, _, _, _, h, e, _ => by cases e
  | _ :: _, _, _, 0, _, _, W3, ⟨o, r, W1, W2, e, a, b, q⟩, _, h => by
    subst e
    have w : W1 = [] := by
      rcases a with ⟨_, w⟩ | ⟨v, _, w⟩
      · exact w
      · exact w
    subst w
    exact ⟨_, r, W3, W2, rfl, .inr ⟨_, rfl, h⟩, b, List.Perm.append_left _ q⟩
  | t0 :: δ, σ, W, i + 1, t, v, W3, ⟨o, r, W1, W2, e, a, b, q⟩, hl, h => by
    subst e
    have b1 := RepE.store (i := i) (t := t) b (by simpa using hl) h
    refine ⟨o, _, W1, W3 ++ W2, rfl, a, b1, (List.Perm.append_left W3 q).trans ?_⟩
    rw [← List.append_assoc, ← List.append_assoc]
    exact List.Perm.append_right W2 List.perm_append_comm
end
end L2.DL

namespace L2.DL
open PySem PySem.Spec PyProof.Rows

/-! ### states -/
structure StOk (K : PySem.W.Frag) (B : BH) (G H : Hp) (W : List Addr) (δ : Env) (σ : St) : Prop where
  sub : Same G H
  off : ∀ a ∈ W, G a = none
  nd : W.Nodup
  rep : RepE K B G H δ σ W
  bor : Same B H
  bof : ∀ a ∈ W, B a = none
/-- from (G, H), of which W may be changed, to (G', H') -/
structure Nx (G H : Hp) (W : List Addr) (G' H' : Hp) (W' : List Addr) : Prop where
  sub : Same G G'
  keep : ∀ a o, H a = some o → a ∉ W → H' a = some o
  new : ∀ a ∈ W', a ∈ W ∨ H a = none
  grow : ∀ a o, G' a = some o → G a = some o ∨ a ∈ W ∨ H a = none
section
variable {K : PySem.W.Frag} {B : BH} {G G' G1 G2 H H' H1 H2 : Hp} {W W' W1 W2 : List Addr} {δ δ' : Env} {σ σ' : St}
theorem Nx.refl : Nx G H W G H W := ⟨Same.refl G, fun _ _ e _ => e, fun _ m => .inl m, fun _ _ e => .inl e⟩
theorem Nx.trans (a : Nx G H W G1 H1 W1) (b : Nx G1 H1 W1 G2 H2 W2) : Nx G H W G2 H2 W2 := by
  have gone : ∀ c, H1 c = none → c ∈ W ∨ H c = none := fun c e => by
    cases q : H c with
    | none => exact .inr rfl
    | some o =>
      by_cases m : c ∈ W
      · exact .inl m
      · rw [a.keep c o q m] at e
        cases e
  refine ⟨a.sub.trans b.sub, fun c o e m => ?_, fun c m => ?_, fun c o e => ?_⟩
  · refine b.keep c o (a.keep c o e m) fun m1 => ?_
    rcases a.new c m1 with z | z
    · exact m z
    · rw [z] at e
      cases e
  · rcases b.new c m with z | z
    · exact a.new c z
    · exact gone c z
  · rcases b.grow c o e with z | z | z
    · exact a.grow c o z
    · exact .inr (a.new c z)
    · exact .inr (gone c z)
theorem Nx.weak (a : Nx G H W G1 H1 W1) (h : ∀ c ∈ W', c ∈ W1) : Nx G H W G1 H1 W' := ⟨a.sub, a.keep, fun c m => a.new c (h c m), a.grow⟩
/-- more may be changed -/
theorem Nx.wide (a : Nx G H W G1 H1 W1) (h : ∀ c ∈ W, c ∈ W') : Nx G H W' G1 H1 W1 :=
  ⟨a.sub, fun c o e m => a.keep c o e fun z => m (h c z), fun c m => (a.new c m).imp (h c) id, fun c o e => (a.grow c o e).imp id (Or.imp (h c) id)⟩
/-- what stands aside -/
theorem Nx.aside (a : Nx G H W G1 H1 W1) (inH : ∀ c ∈ W2, ∃ o, H c = some o) (dj : ∀ c ∈ W2, c ∉ W) : Keep W2 H H1 ∧ (∀ c ∈ W2, G c = none → G1 c = none) ∧ (∀ c ∈ W2, c ∉ W1) := by
  refine ⟨fun c m o e => a.keep c o e (dj c m), fun c m e => ?_, fun c m m1 => ?_⟩
  · cases q : G1 c with
    | none => rfl
    | some o =>
      rcases a.grow c o q with z | z | z
      · rw [e] at z; cases z
      · exact absurd z (dj c m)
      · obtain ⟨u, hu⟩ := inH c m
        rw [hu] at z; cases z
  · rcases a.new c m1 with z | z
    · exact dj c m z
    · obtain ⟨u, hu⟩ := inH c m
      rw [hu] at z; cases z
theorem Nx.beside (a : Nx G H W G1 H1 W1) : Nx G H (W ++ W2) G1 H1 (W1 ++ W2) := by
  refine ⟨a.sub, fun c o e m => a.keep c o e fun z => m (List.mem_append_left _ z), fun c m => ?_, fun c o e => ?_⟩
  · rcases List.mem_append.mp m with z | z
    · exact (a.new c z).imp (List.mem_append_left _) id
    · exact .inl (List.mem_append_right _ z)
  · exact (a.grow c o e).imp id (Or.imp (List.mem_append_left _) id)
theorem Nx.perm (a : Nx G H W G1 H1 W1) (p : W'.Perm W) (q : W2.Perm W1) : Nx G H W' G1 H1 W2 :=
  ⟨a.sub, fun c o e m => a.keep c o e fun z => m (p.symm.subset z), fun c m => (a.new c (q.subset m)).imp (fun z => p.symm.subset z) id, fun c o e => (a.grow c o e).imp id (Or.imp (fun z => p.symm.subset z) id)⟩
theorem StOk.in_ (s : StOk K B G H W δ σ) : ∀ a ∈ W, ∃ o, H a = some o := s.rep.in_
theorem nodup_app {A B : List Addr} (a : A.Nodup) (b : B.Nodup) (d : ∀ c ∈ A, c ∉ B) : (A ++ B).Nodup := List.nodup_append.mpr ⟨a, b, fun x hx y hy e => d x hx (by rw [e]; exact hy)⟩
/-- the frame rule: the slots stand aside -/
theorem bor_next {B : BH} (b : Same B H) (a : Nx G H W G1 H1 W1) (hb : ∀ c ∈ W, B c = none) : Same B H1 := fun c o e => a.keep c o (b c o e) fun m => by
  rw [hb c m] at e
  cases e
theorem bof_next {B : BH} (b : Same B H) (a : Nx G H W G1 H1 W1) (hb : ∀ c ∈ W, B c = none) : ∀ c ∈ W1, B c = none := fun c m => (a.new c m).elim (hb c) fun z => b.free z
theorem StOk.next (s : StOk K B G H W2 δ σ) (a : Nx G H W G1 H1 W1) (sb : Same G1 H1) (dj : ∀ c ∈ W2, c ∉ W) (hb : ∀ c ∈ W, B c = none) : StOk K B G1 H1 W2 δ σ :=
  let ⟨k, o, _⟩ := a.aside s.in_ dj
  ⟨sb, fun c m => o c m (s.off c m), s.nd, s.rep.mono a.sub k, bor_next s.bor a hb, s.bof⟩
end

/-! ### results -/
abbrev Exn := Option (List Str × List D)
inductive R (α : Type) where
  | ok (a : α) (δ : Env)
  | exn (c : Str) (x : Exn) (δ : Env)
  | no
def R.map {α β : Type} (f : α → β) : R α → R β
  | .ok a δ => .ok (f a) δ
  | .exn c x δ => .exn c x δ
  | .no => .no
def R.bind {α β : Type} (r : R α) (f : α → Env → R β) : R β := match r with
  | .ok a δ => f a δ
  | .exn c x δ => .exn c x δ
  | .no => .no
/-- the value, frozen -/
def R.val {β : Type} (r : R T) (f : D → Env → R β) : R β := match r with
  | .ok (.d x) δ => f x δ
  | .ok t δ => if t.full then f t.frz δ else .no
  | .exn c x δ => .exn c x δ
  | .no => .no
def R.env {α : Type} (f : Env → Env) : R α → R α
  | .ok a δ => .ok a (f δ)
  | .exn c x δ => .exn c x (f δ)
  | .no => .no
theorem R.bind_ok {α β : Type} (a : α) (δ : Env) (f : α → Env → R β) : (R.ok a δ).bind f = f a δ := rfl
theorem R.bind_exn {α β : Type} (c : Str) (x : Exn) (δ : Env) (f : α → Env → R β) : (R.exn c x δ : R α).bind f = .exn c x δ := rfl
theorem R.val_d {β : Type} (x : D) (δ : Env) (f : D → Env → R β) : (R.ok (.d x) δ).val f = f x δ := rfl
theorem R.val_exn {β : Type} (c : Str) (x : Exn) (δ : Env) (f : D → Env → R β) : (R.exn c x δ : R T).val f = .exn c x δ := rfl
theorem R.val_of {β : Type} (t : T) (δ : Env) (f : D → Env → R β) (h : t.full = true) : (R.ok t δ).val f = f t.frz δ := by
  cases t with
  | hole => cases h
  | exc => cases h
  | d x => rfl
  | bor x => cases h
  | lst ts => exact if_pos h
  | dic ks ts => exact if_pos h
  | ins c ns ts => exact if_pos h
/-- of an optional result that leaves the slots as they are -/
def R.of {α : Type} (o : Option α) (δ : Env) : R α := match o with
  | some a => .ok a δ
  | none => .no

inductive Fl where
  | nx | bk | ct
  | rt (t : T)

/-- an exception, by its class and its own dict -/
def ExR (K : PySem.W.Frag) (G : Hp) (c : Str) (x : Exn) (cls : Value) (d : Option Addr) : Prop :=
  cls = .ref (He.ga K c) ∧ match x with
    | none => d = none
    | some (ns, xs) => ∃ dx vfs, d = some dx ∧ G dx = some (.xd vfs) ∧ ∀ f y, (ns.zip xs).lookup f = some y → ∃ v, vfs.lookup f = some v ∧ RepD K G y v

section
variable (K : PySem.W.Frag) (B : BH) (G H : Hp) (W : List Addr) (σ : St) (Wx : WX)
/-- what an exception is to be -/
def PoX (Pn : List Nat) (c : Str) (x : Exn) (δ' : Env) : Prop := ∀ G' H' W' σ' cls d, Nx G H W G' H' W' → StOk K B G' H' W' δ' σ' → (∀ i ∈ Pn, σ'[i]? = σ[i]?) → σ'.length = σ.length → ExR K G' c x cls d → Wx cls d σ' H'
def PoE (c : Str) (x : Exn) (δ' : Env) : Prop := ∀ G' H' W' cls d, Nx G H W G' H' W' → StOk K B G' H' W' δ' σ → ExR K G' c x cls d → Wx cls d σ H'
def PoN (Q : VK) : R T → Prop
  | .ok t δ' => ∀ G' H' Wt W' v, Nx G H W G' H' (Wt ++ W') → StOk K B G' H' W' δ' σ → (∀ a ∈ Wt, G' a = none) → (Wt ++ W').Nodup → RepT K B G' H' t v Wt → Q v H'
  | .exn c x δ' => PoE K B G H W σ Wx c x δ'
  | .no => False
def PoB (Q : Bool → Hp → Prop) : R Bool → Prop
  | .ok b δ' => ∀ G' H' W', Nx G H W G' H' W' → StOk K B G' H' W' δ' σ → Q b H'
  | .exn c x δ' => PoE K B G H W σ Wx c x δ'
  | .no => False
def PoA (Q : List V → Hp → Prop) : R (List T) → Prop
  | .ok ts δ' => ∀ G' H' Wt W' vs, Nx G H W G' H' (Wt ++ W') → StOk K B G' H' W' δ' σ → (∀ a ∈ Wt, G' a = none) → (Wt ++ W').Nodup → RepTs K B G' H' ts vs Wt → Q vs H'
  | .exn c x δ' => PoE K B G H W σ Wx c x δ'
  | .no => False
def PoS (Pn : List Nat) (D : Ends) : R Fl → Prop
  | .ok .nx δ' => ∀ G' H' W' σ', Nx G H W G' H' W' → StOk K B G' H' W' δ' σ' → (∀ i ∈ Pn, σ'[i]? = σ[i]?) → σ'.length = σ.length → D.nx σ' H'
  | .ok .bk δ' => ∀ G' H' W' σ', Nx G H W G' H' W' → StOk K B G' H' W' δ' σ' → (∀ i ∈ Pn, σ'[i]? = σ[i]?) → σ'.length = σ.length → D.bk σ' H'
  | .ok .ct δ' => ∀ G' H' W' σ', Nx G H W G' H' W' → StOk K B G' H' W' δ' σ' → (∀ i ∈ Pn, σ'[i]? = σ[i]?) → σ'.length = σ.length → D.ct σ' H'
  | .ok (.rt t) δ' => ∀ G' H' Wt W' σ' v, Nx G H W G' H' (Wt ++ W') → StOk K B G' H' W' δ' σ' → (∀ a ∈ Wt, G' a = none) → (Wt ++ W').Nodup → RepT K B G' H' t v Wt → (∀ i ∈ Pn, σ'[i]? = σ[i]?) → σ'.length = σ.length → D.rt v H'
  | .exn c x δ' => PoX K B G H W σ Wx Pn c x δ'
  | .no => False
end
abbrev EM := Env → R T
abbrev BM := Env → R Bool
abbrev AM := Env → R (List T)
abbrev SM := Env → R Fl
def tN (K : PySem.W.Frag) (B : BH) (Wx : WX) (m : EM) : TE := fun σ H Q => ∃ G W δ, StOk K B G H W δ σ ∧ PoN K B G H W σ Wx Q (m δ)
def tT (K : PySem.W.Frag) (B : BH) (Wx : WX) (m : BM) : TT := fun σ H Q => ∃ G W δ, StOk K B G H W δ σ ∧ PoB K B G H W σ Wx Q (m δ)
def tA (K : PySem.W.Frag) (B : BH) (Wx : WX) (m : AM) : TA := fun σ H Q => ∃ G W δ, StOk K B G H W δ σ ∧ PoA K B G H W σ Wx Q (m δ)
def tS (K : PySem.W.Frag) (B : BH) (Wx : WX) (Pn : List Nat) (m : SM) : TS := fun D σ H => ∃ G W δ, StOk K B G H W δ σ ∧ PoS K B G H W σ Wx Pn D (m δ)
/-- a look at what stands there: nothing changes -/
abbrev VM := Env → Option T
def tL (K : PySem.W.Frag) (B : BH) (m : VM) : TE := fun σ H Q => ∃ G W δ t, StOk K B G H W δ σ ∧ m δ = some t ∧ ∀ v W1, RepT K B G H t v W1 → (∀ a ∈ W1, a ∈ W) → Q v H

abbrev DN (X : Cx) (B : BH) (Wx : WX) (e : Expr) (m : EM) : Prop := PE X e (tN X.K B Wx m)
abbrev DT (X : Cx) (B : BH) (Wx : WX) (e : Expr) (m : BM) : Prop := PT X e (tT X.K B Wx m)
abbrev DA (X : Cx) (B : BH) (Wx : WX) (es : List Expr) (m : AM) : Prop := PA X es (tA X.K B Wx m)
abbrev DS (X : Cx) (B : BH) (Wx : WX) (Pn : List Nat) (st : Stmt) (m : SM) : Prop := PS X st (tS X.K B Wx Pn m)
abbrev DB (X : Cx) (B : BH) (Wx : WX) (Pn : List Nat) (st : List Stmt) (m : SM) : Prop := PSs X st (tS X.K B Wx Pn m)
abbrev DL (X : Cx) (B : BH) (e : Expr) (m : VM) : Prop := PE X e (tL X.K B m)

theorem peImp {X : Cx} {e : Expr} {t t' : TE} (h : PE X e t) (i : ∀ σ H Q, t' σ H Q → t σ H Q) : PE X e t' := ⟨fun pins s σ H Q I q => h.run pins s σ H Q I (i σ H Q q)⟩
theorem ptImp {X : Cx} {e : Expr} {t t' : TT} (h : PT X e t) (i : ∀ σ H Q, t' σ H Q → t σ H Q) : PT X e t' := ⟨fun pins s σ H Q I q => h.run pins s σ H Q I (i σ H Q q)⟩
theorem paImp {X : Cx} {e : List Expr} {t t' : TA} (h : PA X e t) (i : ∀ σ H Q, t' σ H Q → t σ H Q) : PA X e t' := ⟨fun pos pins s σ H Q I q => h.run pos pins s σ H Q I (i σ H Q q)⟩
theorem psImp {X : Cx} {e : Stmt} {t t' : TS} (h : PS X e t) (i : ∀ D σ H, t' D σ H → t D σ H) : PS X e t' := ⟨fun pins s σ H D I q => h.run pins s σ H D I (i D σ H q)⟩
theorem pssImp {X : Cx} {e : List Stmt} {t t' : TS} (h : PSs X e t) (i : ∀ D σ H, t' D σ H → t D σ H) : PSs X e t' := ⟨fun pins s σ H D I q => h.run pins s σ H D I (i D σ H q)⟩

section
variable {K : PySem.W.Frag} {B : BH} {G G' G1 G2 H H' H1 H2 : Hp} {W W' W1 W2 : List Addr} {δ δ' : Env} {σ σ1 : St} {Wx : WX} {Pn : List Nat}
theorem PoE.next {c : Str} {x : Exn} (p : PoE K B G H W σ Wx c x δ') (n : Nx G H W G1 H1 W1) : PoE K B G1 H1 W1 σ Wx c x δ' := fun G' H' W' cls d n' s e => p G' H' W' cls d (n.trans n') s e
theorem PoN.next {Q : VK} (n : Nx G H W G1 H1 W1) : ∀ {r : R T}, PoN K B G H W σ Wx Q r → PoN K B G1 H1 W1 σ Wx Q r
  | .ok _ _, p => fun G' H' Wt W' v n' => p G' H' Wt W' v (n.trans n')
  | .exn _ _ _, p => PoE.next p n
  | .no, p => p
theorem PoB.next {Q : Bool → Hp → Prop} (n : Nx G H W G1 H1 W1) : ∀ {r : R Bool}, PoB K B G H W σ Wx Q r → PoB K B G1 H1 W1 σ Wx Q r
  | .ok _ _, p => fun G' H' W' n' => p G' H' W' (n.trans n')
  | .exn _ _ _, p => PoE.next p n
  | .no, p => p
theorem PoA.next {Q : List V → Hp → Prop} (n : Nx G H W G1 H1 W1) : ∀ {r : R (List T)}, PoA K B G H W σ Wx Q r → PoA K B G1 H1 W1 σ Wx Q r
  | .ok _ _, p => fun G' H' Wt W' v n' => p G' H' Wt W' v (n.trans n')
  | .exn _ _ _, p => PoE.next p n
  | .no, p => p
theorem PoX.next {c : Str} {x : Exn} (p : PoX K B G H W σ Wx Pn c x δ') (n : Nx G H W G1 H1 W1) (pn : ∀ i ∈ Pn, σ1[i]? = σ[i]?) (hl : σ1.length = σ.length) : PoX K B G1 H1 W1 σ1 Wx Pn c x δ' :=
  fun G' H' W' σ' cls d n' s q l e => p G' H' W' σ' cls d (n.trans n') s (fun i m => (q i m).trans (pn i m)) (l.trans hl) e
theorem PoS.next {D : Ends} (n : Nx G H W G1 H1 W1) (pn : ∀ i ∈ Pn, σ1[i]? = σ[i]?) (hl : σ1.length = σ.length) : ∀ {r : R Fl}, PoS K B G H W σ Wx Pn D r → PoS K B G1 H1 W1 σ1 Wx Pn D r
  | .ok .nx _, p => fun G' H' W' σ' n' s q l => p G' H' W' σ' (n.trans n') s (fun i m => (q i m).trans (pn i m)) (l.trans hl)
  | .ok .bk _, p => fun G' H' W' σ' n' s q l => p G' H' W' σ' (n.trans n') s (fun i m => (q i m).trans (pn i m)) (l.trans hl)
  | .ok .ct _, p => fun G' H' W' σ' n' s q l => p G' H' W' σ' (n.trans n') s (fun i m => (q i m).trans (pn i m)) (l.trans hl)
  | .ok (.rt _) _, p => fun G' H' Wt W' σ' v n' s o d r q l => p G' H' Wt W' σ' v (n.trans n') s o d r (fun i m => (q i m).trans (pn i m)) (l.trans hl)
  | .exn _ _ _, p => PoX.next p n pn hl
  | .no, p => p
/-- an exception of an expression, in a statement -/
theorem PoX.poE {c : Str} {x : Exn} (p : PoX K B G H W σ Wx Pn c x δ') : PoE K B G H W σ Wx c x δ' := fun G' H' W' cls d n s e => p G' H' W' σ cls d n s (fun _ _ => rfl) rfl e

/-- freezing what is held -/
theorem freeze {t : T} {v : V} {Wt : List Addr} (f : t.full = true) (s : StOk K B G H W δ σ) (off : ∀ a ∈ Wt, G a = none) (nd : (Wt ++ W).Nodup) (r : RepT K B G H t v Wt) :
    ∃ G', Nx G H (Wt ++ W) G' H W ∧ StOk K B G' H W δ σ ∧ RepD K G' t.frz v := by
  have hs : ∀ a o, G a = some o → (if a ∈ Wt then H a else G a) = some o := fun a o e => by
    by_cases m : a ∈ Wt
    · rw [off a m] at e; cases e
    · rw [if_neg m]; exact e
  have dj : ∀ c ∈ W, c ∉ Wt := fun c m m' => by
    have := (List.nodup_append.mp nd).2.2 c m' c m
    exact this rfl
  refine ⟨fun a => if a ∈ Wt then H a else G a, ⟨hs, fun _ _ e _ => e, fun a m => .inl (List.mem_append_right _ m), fun a o e => ?_⟩, ⟨fun a o e => ?_, fun a m => ?_, s.nd, s.rep.mono hs fun a m o e => e, s.bor, s.bof⟩, ?_⟩
  · by_cases m : a ∈ Wt
    · exact .inr (.inl (List.mem_append_left _ m))
    · have e' : (if a ∈ Wt then H a else G a) = some o := e
      rw [if_neg m] at e'
      exact .inl e'
  · have e' : (if a ∈ Wt then H a else G a) = some o := e
    by_cases m : a ∈ Wt
    · rw [if_pos m] at e'; exact e'
    · rw [if_neg m] at e'; exact s.sub a o e'
  · show (if a ∈ Wt then H a else G a) = none
    rw [if_neg (dj a m)]
    exact s.off a m
  · refine repT_frz s.sub t v Wt f r (fun a m o e => ?_) hs
    show (if a ∈ Wt then H a else G a) = some o
    rw [if_pos m]; exact e
/-- consuming a value: frozen -/
theorem val_use {β : Type} {r : R T} {f : D → Env → R β} {P : (Hp → Hp → List Addr → R β → Prop)} {Q : VK} (hexn : ∀ c x δ', r = .exn c x δ' → P G H W (.exn c x δ') → PoE K B G H W σ Wx c x δ') (hno : P G H W .no → False)
    (hnext : ∀ G1 H1 W1 r, Nx G H W G1 H1 W1 → P G H W r → P G1 H1 W1 r) (p : P G H W (r.val f))
    (use : ∀ G' H' W' x v δ', Nx G H W G' H' W' → StOk K B G' H' W' δ' σ → RepD K G' x v → P G' H' W' (f x δ') → Q v H') : PoN K B G H W σ Wx Q r := by
  cases r with
  | no => exact hno p
  | exn c x δ' => exact hexn c x δ' rfl p
  | ok t δ' =>
    intro G' H' Wt W' v n s off nd rt
    cases t with
    | hole => exact (hno (by simpa [R.val, T.full] using p)).elim
    | exc => exact (hno (by simpa [R.val, T.full] using p)).elim
    | bor x => exact (hno (by simpa [R.val, T.full] using p)).elim
    | d x =>
      obtain ⟨e, rd⟩ := rt
      subst e
      exact use G' H' W' x v δ' n s rd (hnext _ _ _ _ n p)
    | lst ts =>
      cases ff : (T.lst ts).full with
      | false => exact (hno (by simpa [R.val, ff] using p)).elim
      | true =>
        obtain ⟨G2, n2, s2, rd⟩ := freeze ff s off nd rt
        exact use G2 H' W' _ v δ' (n.trans n2) s2 rd (hnext _ _ _ _ (n.trans n2) (by simpa [R.val, ff] using p))
    | dic ks ts =>
      cases ff : (T.dic ks ts).full with
      | false => exact (hno (by simpa [R.val, ff] using p)).elim
      | true =>
        obtain ⟨G2, n2, s2, rd⟩ := freeze ff s off nd rt
        exact use G2 H' W' _ v δ' (n.trans n2) s2 rd (hnext _ _ _ _ (n.trans n2) (by simpa [R.val, ff] using p))
    | ins c ns ts =>
      cases ff : (T.ins c ns ts).full with
      | false => exact (hno (by simpa [R.val, ff] using p)).elim
      | true =>
        obtain ⟨G2, n2, s2, rd⟩ := freeze ff s off nd rt
        exact use G2 H' W' _ v δ' (n.trans n2) s2 rd (hnext _ _ _ _ (n.trans n2) (by simpa [R.val, ff] using p))
theorem val_N {r : R T} {f : D → Env → R T} {Q Q' : VK} (p : PoN K B G H W σ Wx Q' (r.val f))
    (use : ∀ G' H' W' x v δ', Nx G H W G' H' W' → StOk K B G' H' W' δ' σ → RepD K G' x v → PoN K B G' H' W' σ Wx Q' (f x δ') → Q v H') : PoN K B G H W σ Wx Q r :=
  val_use (P := fun G H W r => PoN K B G H W σ Wx Q' r) (fun _ _ _ _ z => z) (fun z => z) (fun _ _ _ _ n z => z.next n) p use
theorem val_B {r : R T} {f : D → Env → R Bool} {Q : VK} {Q' : Bool → Hp → Prop} (p : PoB K B G H W σ Wx Q' (r.val f))
    (use : ∀ G' H' W' x v δ', Nx G H W G' H' W' → StOk K B G' H' W' δ' σ → RepD K G' x v → PoB K B G' H' W' σ Wx Q' (f x δ') → Q v H') : PoN K B G H W σ Wx Q r :=
  val_use (P := fun G H W r => PoB K B G H W σ Wx Q' r) (fun _ _ _ _ z => z) (fun z => z) (fun _ _ _ _ n z => z.next n) p use
theorem val_A {r : R T} {f : D → Env → R (List T)} {Q : VK} {Q' : List V → Hp → Prop} (p : PoA K B G H W σ Wx Q' (r.val f))
    (use : ∀ G' H' W' x v δ', Nx G H W G' H' W' → StOk K B G' H' W' δ' σ → RepD K G' x v → PoA K B G' H' W' σ Wx Q' (f x δ') → Q v H') : PoN K B G H W σ Wx Q r :=
  val_use (P := fun G H W r => PoA K B G H W σ Wx Q' r) (fun _ _ _ _ z => z) (fun z => z) (fun _ _ _ _ n z => z.next n) p use
theorem val_S {r : R T} {f : D → Env → R Fl} {Q : VK} {D0 : Ends} (p : PoS K B G H W σ Wx Pn D0 (r.val f))
    (use : ∀ G' H' W' x v δ', Nx G H W G' H' W' → StOk K B G' H' W' δ' σ → RepD K G' x v → PoS K B G' H' W' σ Wx Pn D0 (f x δ') → Q v H') : PoN K B G H W σ Wx Q r :=
  val_use (P := fun G H W r => PoS K B G H W σ Wx Pn D0 r) (fun _ _ _ _ z => PoX.poE z) (fun z => z) (fun _ _ _ _ n z => z.next n (fun _ _ => rfl) rfl) p use
end
end L2.DL

namespace L2.DL
open PySem PySem.Spec PyProof.Rows
section
variable {K : PySem.W.Frag} {B : BH} {G G' H H' : Hp} {W W' Wt : List Addr} {δ δ' : Env} {σ : St} {Wx : WX} {Q : VK}
theorem ret_d {x : D} {v : V} (s : StOk K B G H W δ σ) (p : PoN K B G H W σ Wx Q (.ok (.d x) δ)) (r : RepD K G x v) : Q v H :=
  p G H [] W v Nx.refl s (fun _ m => nomatch m) (by simpa using s.nd) ⟨rfl, r⟩
/-- new objects -/
theorem ret_t {t : T} {v : V} (s : StOk K B G H W δ σ) (p : PoN K B G H W σ Wx Q (.ok t δ)) (n : Nx G H [] G' H' Wt) (sb : Same G' H') (off : ∀ a ∈ Wt, G' a = none) (nd : Wt.Nodup) (r : RepT K B G' H' t v Wt) : Q v H' := by
  obtain ⟨k, o, dj⟩ := n.aside s.in_ (fun _ _ m => nomatch m)
  refine p G' H' Wt W v ?_ (s.next n sb (fun _ _ m => nomatch m) (fun _ m => nomatch m)) off (nodup_app nd s.nd fun c m m' => dj c m' m) r
  simpa using n.beside (W2 := W)
end

/-! ### constants, names -/
def nC (x : D) : EM := fun δ => .ok (.d x) δ
def nFrz (i : Nat) : EM := fun δ => match δ[i]? with
  | some (.d x) => .ok (.d x) δ
  | some t => if t.full then .ok (.d t.frz) (δ.set i (.d t.frz)) else .no
  | none => .no
def nMove (i : Nat) : EM := fun δ => match δ[i]? with
  | some (.d x) => .ok (.d x) δ
  | some .hole => .no
  | some .exc => .no
  | some (.bor x) => .no
  | some t => .ok t (δ.set i .hole)
  | none => .no
def vVar (i : Nat) : VM := fun δ => match δ[i]? with
  | some .hole => none
  | o => o
section
variable {X : Cx} {B : BH} {Wx : WX}
theorem dn_const {e : Expr} {x : D} {v : V} (h : PE X e (tC v)) (r : ∀ G, RepD X.K G x v) : DN X B Wx e (nC x) := peImp h fun σ H Q ⟨G, W, δ, s, p⟩ => ret_d s p (r G)
theorem dn_int {i j pos} : DN X B Wx (.Constant (.int i) j pos) (nC (.int i)) := dn_const pe_int fun _ => rfl
theorem dn_bl {i j pos} : DN X B Wx (.Constant (.bool i) j pos) (nC (.bl i)) := dn_const pe_bl fun _ => rfl
theorem dn_non {j pos} : DN X B Wx (.Constant .none j pos) (nC .non) := dn_const pe_non fun _ => rfl
theorem dn_str {i j pos} : DN X B Wx (.Constant (.str i) j pos) (nC (.str i)) := dn_const pe_str fun _ => rfl

/-- the slot's value, and the rest -/
theorem slot_of {K : PySem.W.Frag} {B : BH} {G H : Hp} {W : List Addr} {δ : Env} {σ : St} {i : Nat} {t : T} (s : StOk K B G H W δ σ) (h : δ[i]? = some t) (nh : t ≠ .hole) :
    ∃ v W1 W2, σ[i]? = some (some v) ∧ RepT K B G H t v W1 ∧ RepE K B G H (δ.set i .hole) σ W2 ∧ W.Perm (W1 ++ W2) := by
  obtain ⟨o, W1, W2, e, r, re, q⟩ := s.rep.take h
  rcases r with ⟨z, _⟩ | ⟨v, eo, r⟩
  · exact absurd z nh
  · subst eo
    exact ⟨v, W1, W2, e, r, re, q⟩
theorem set_same {α : Type} {l : List α} {i : Nat} {t : α} (h : l[i]? = some t) : l.set i t = l := by
  apply List.ext_getElem?
  intro j
  rw [List.getElem?_set]
  by_cases e : i = j
  · subst e
    obtain ⟨hl, _⟩ := List.getElem?_eq_some_iff.mp h
    rw [if_pos rfl, if_pos hl, h]
  · rw [if_neg e]
theorem set_set {α : Type} (l : List α) (i : Nat) (a b : α) : (l.set i a).set i b = l.set i b := by
  apply List.ext_getElem?
  intro j
  simp only [List.getElem?_set, List.length_set]
  split <;> rfl

theorem dn_frz {i : Nat} {x : Str} {pos : Pos} (h : PE X (.Name x pos) (tVar i)) : DN X B Wx (.Name x pos) (nFrz i) := peImp h fun σ H Q ⟨G, W, δ, s, p⟩ => by
  unfold nFrz at p
  cases e : δ[i]? with
  | none => rw [e] at p; exact p.elim
  | some t =>
    rw [e] at p
    have gen : t ≠ .hole → PoN X.K B G H W σ Wx Q (if t.full then .ok (.d t.frz) (δ.set i (.d t.frz)) else .no) → tVar i σ H Q := fun nh p => by
      cases f : t.full with
      | false => rw [f] at p; exact p.elim
      | true =>
        rw [f] at p
        obtain ⟨v, W1, W2, ev, r, re, q⟩ := slot_of s e nh
        have nd := q.nodup_iff.mp s.nd
        have s2 : StOk X.K B G H W2 (δ.set i .hole) σ := ⟨s.sub, fun a m => s.off a (q.symm.subset (List.mem_append_right _ m)), (List.nodup_append.mp nd).2.1, re, s.bor, fun a m => s.bof a (q.symm.subset (List.mem_append_right _ m))⟩
        obtain ⟨G', n, s3, rd⟩ := freeze f s2 (fun a m => s.off a (q.symm.subset (List.mem_append_left _ m))) nd r
        have s4 : StOk X.K B G' H W2 (δ.set i (.d t.frz)) σ := ⟨s3.sub, s3.off, s3.nd, by
          have := RepE.put (t := .d t.frz) (W1 := []) s3.rep ev (.inr ⟨v, rfl, rfl, rd⟩)
          simpa using this, s3.bor, s3.bof⟩
        exact ⟨v, ev, p G' H [] W2 v (n.perm (by simpa using q) (by simp)) s4 (fun _ m => nomatch m) (by simpa using s4.nd) ⟨rfl, rd⟩⟩
    cases t with
    | hole => exact absurd p (by simp [T.full, PoN])
    | exc => exact absurd p (by simp [T.full, PoN])
    | bor y => exact absurd p (by simp [T.full, PoN])
    | d y =>
      obtain ⟨v, W1, W2, ev, ⟨_, rd⟩, re, q⟩ := slot_of s e (fun z => nomatch z)
      exact ⟨v, ev, ret_d s p rd⟩
    | lst ts => exact gen (fun z => nomatch z) p
    | dic ks ts => exact gen (fun z => nomatch z) p
    | ins c ns ts => exact gen (fun z => nomatch z) p
theorem dn_move {i : Nat} {x : Str} {pos : Pos} (h : PE X (.Name x pos) (tVar i)) : DN X B Wx (.Name x pos) (nMove i) := peImp h fun σ H Q ⟨G, W, δ, s, p⟩ => by
  unfold nMove at p
  cases e : δ[i]? with
  | none => rw [e] at p; exact p.elim
  | some t =>
    rw [e] at p
    have gen : t ≠ .hole → PoN X.K B G H W σ Wx Q (.ok t (δ.set i .hole)) → tVar i σ H Q := fun nh p => by
      obtain ⟨v, W1, W2, ev, r, re, q⟩ := slot_of s e nh
      have nd := q.nodup_iff.mp s.nd
      exact ⟨v, ev, p G H W1 W2 v (Nx.refl.perm (List.Perm.refl _) q.symm) ⟨s.sub, fun a m => s.off a (q.symm.subset (List.mem_append_right _ m)), (List.nodup_append.mp nd).2.1, re, s.bor, fun a m => s.bof a (q.symm.subset (List.mem_append_right _ m))⟩ (fun a m => s.off a (q.symm.subset (List.mem_append_left _ m))) nd r⟩
    cases t with
    | hole => exact p.elim
    | exc => exact p.elim
    | bor y => exact p.elim
    | d y =>
      obtain ⟨v, W1, W2, ev, ⟨_, rd⟩, re, q⟩ := slot_of s e (fun z => nomatch z)
      exact ⟨v, ev, ret_d s p rd⟩
    | lst ts => exact gen (fun z => nomatch z) p
    | dic ks ts => exact gen (fun z => nomatch z) p
    | ins c ns ts => exact gen (fun z => nomatch z) p
theorem dl_var {i : Nat} {x : Str} {pos : Pos} (h : PE X (.Name x pos) (tVar i)) : DL X B (.Name x pos) (vVar i) := peImp h fun σ H Q ⟨G, W, δ, t, s, e, q⟩ => by
  unfold vVar at e
  have e' : δ[i]? = some t ∧ t ≠ .hole := by
    cases h : δ[i]? with
    | none => rw [h] at e; cases e
    | some u =>
      rw [h] at e
      cases u <;> cases e <;> exact ⟨rfl, fun z => nomatch z⟩
  obtain ⟨v, W1, W2, ev, r, re, p⟩ := slot_of s e'.1 e'.2
  exact ⟨v, ev, q v W1 r fun a m => p.symm.subset (List.mem_append_left _ m)⟩
/-- a look as a value -/
def nLook (m : VM) : EM := fun δ => match m δ with
  | some (.d x) => .ok (.d x) δ
  | _ => .no
theorem dn_look {e : Expr} {m : VM} (h : DL X B e m) : DN X B Wx e (nLook m) := peImp h fun σ H Q ⟨G, W, δ, s, p⟩ => by
  unfold nLook at p
  cases e : m δ with
  | none => rw [e] at p; exact p.elim
  | some t =>
    rw [e] at p
    cases t with
    | d x => exact ⟨G, W, δ, .d x, s, e, fun v W1 ⟨_, rd⟩ _ => ret_d s p rd⟩
    | _ => exact p.elim
end

/-! ### operators -/
def OpD (K : PySem.W.Frag) (f : D → D → Option T) (r : R2) : Prop := ∀ (B : BH) (G H : Hp) (x y : D) (v u : V) (t : T) (Q : VK), Same G H → RepD K G x v → RepD K G y u → f x y = some t →
  (∀ G' H' Wt w, Nx G H [] G' H' Wt → Same G' H' → (∀ a ∈ Wt, G' a = none) → Wt.Nodup → RepT K B G' H' t w Wt → Q w H') → r v u H Q
/-- no new object: the answer is data -/
theorem same_end {K : PySem.W.Frag} {B : BH} {G H : Hp} {x : D} {v : V} {Q : VK} (sb : Same G H) (k : ∀ G' H' Wt w, Nx G H [] G' H' Wt → Same G' H' → (∀ a ∈ Wt, G' a = none) → Wt.Nodup → RepT K B G' H' (.d x) w Wt → Q w H') (r : RepD K G x v) : Q v H :=
  k G H [] v Nx.refl sb (fun _ m => nomatch m) List.nodup_nil ⟨rfl, r⟩
/-- one new object, frozen -/
theorem upd_sub {G H : Hp} {p : Addr} {o : HO} (sb : Same G H) (hp : H p = none) : Same (upd G p o) (upd H p o) := fun a u e => by
  by_cases h : a = p
  · subst h
    rw [upd_same] at e ⊢
    exact e
  · rw [upd_ne h] at e ⊢
    exact sb _ _ e
theorem new_frz {G H : Hp} {p : Addr} {o : HO} (sb : Same G H) (hp : H p = none) : Nx G H [] (upd G p o) (upd H p o) [] ∧ Same (upd G p o) (upd H p o) ∧ Same G (upd G p o) ∧ Same H (upd H p o) := by
  have k : ∀ {F : Hp}, F p = none → Same F (upd F p o) := fun hF a u e => by rw [upd_ne (ne_of_none e hF)]; exact e
  have gp : G p = none := sb.free hp
  refine ⟨⟨k gp, fun a u e _ => k hp a u e, (fun _ m => nomatch m), fun a u e => ?_⟩, upd_sub sb hp, k gp, k hp⟩
  by_cases h : a = p
  · exact .inr (.inr (by rw [h]; exact hp))
  · rw [upd_ne h] at e
    exact .inl e
/-- one new object, owned -/
theorem new_own {G H : Hp} {p : Addr} {o : HO} (sb : Same G H) (hp : H p = none) : Nx G H [] G (upd H p o) [p] ∧ Same G (upd H p o) ∧ G p = none ∧ Same H (upd H p o) := by
  have k : ∀ {F : Hp}, F p = none → Same F (upd F p o) := fun hF a u e => by rw [upd_ne (ne_of_none e hF)]; exact e
  refine ⟨⟨Same.refl G, fun a u e _ => k hp a u e, fun a m => .inr ?_, fun a u e => .inl e⟩, sb.trans (k hp), sb.free hp, k hp⟩
  rw [List.mem_singleton.mp m]
  exact hp
theorem repTs_of {K : PySem.W.Frag} {B : BH} {G H : Hp} : ∀ {xs : List D} {vs : List V}, RepDs K G xs vs → RepTs K B G H (xs.map T.d) vs []
  | [], _, h => ⟨h, rfl⟩
  | _ :: _, _, ⟨v, r, e, a, b⟩ => ⟨v, r, [], [], e, ⟨rfl, a⟩, repTs_of b, List.Perm.refl _⟩
theorem lst_new {K : PySem.W.Frag} {B : BH} {G H : Hp} {p : Addr} {xs : List D} {vs : List V} (sb : Same G H) (hp : H p = none) (r : RepDs K G xs vs) : RepT K B G (upd H p (.lst vs)) (.lst (xs.map T.d)) (.ref p) [p] :=
  ⟨p, vs, [], rfl, upd_same, repTs_of r, List.Perm.refl _⟩
section
variable {X : Cx} {B : BH} {Wx : WX} {a b c : Expr} {ma mb mc : EM} {pos : Pos}
def nOp (f : D → D → Option T) (ma mb : EM) : EM := fun δ => (ma δ).val fun x δ1 => (mb δ1).val fun y δ2 => R.of (f x y) δ2
theorem op_sem {f : D → D → Option T} {r : R2} (hf : OpD X.K f r) {σ : St} {H : Hp} {Q : VK} (h : tN X.K B Wx (nOp f ma mb) σ H Q) : tOp r (tN X.K B Wx ma) (tN X.K B Wx mb) σ H Q := by
  obtain ⟨G, W, δ, s, p⟩ := h
  refine ⟨G, W, δ, s, val_N p fun G1 H1 W1 x v δ1 n1 s1 r1 p1 => ?_⟩
  refine ⟨G1, W1, δ1, s1, val_N p1 fun G2 H2 W2 y u δ2 n2 s2 r2 p2 => ?_⟩
  cases e : f x y with
  | none => rw [e] at p2; exact p2.elim
  | some t =>
    rw [e] at p2
    exact hf B G2 H2 x y v u t Q s2.sub (r1.mono n2.sub) r2 e fun G' H' Wt w n sb off nd rt => ret_t s2 p2 n sb off nd rt
theorem dn_op {op : Operator} {f : D → D → Option T} {r : R2} (ho : OpR X (binaryOp op) r) (hf : OpD X.K f r) (ha : DN X B Wx a ma) (hb : DN X B Wx b mb) : DN X B Wx (.BinOp a op b pos) (nOp f ma mb) :=
  peImp (pe_op ho ha hb) fun _ _ _ => op_sem hf
theorem dn_cmp {op : CmpOp} {f : D → D → Option T} {r : R2} (ho : OpR X (compareOp op) r) (hf : OpD X.K f r) (hm : behindInMarks op b = false) (ha : DN X B Wx a ma) (hb : DN X B Wx b mb) : DN X B Wx (.Compare a [op] [b] pos) (nOp f ma mb) :=
  peImp (pe_cmpR ho ha hb hm) fun _ _ _ => op_sem hf
/-- a value as a test -/
def bV (m : EM) : BM := fun δ => (m δ).val fun x δ1 => match x with
  | .bl k => .ok k δ1
  | _ => .no
theorem bV_sem {m : EM} {σ : St} {H : Hp} {Q : Bool → Hp → Prop} (h : tT X.K B Wx (bV m) σ H Q) : tTest (tN X.K B Wx m) σ H Q := by
  obtain ⟨G, W, δ, s, p⟩ := h
  refine ⟨G, W, δ, s, val_B p fun G1 H1 W1 x v δ1 n1 s1 r1 p1 => ?_⟩
  cases x with
  | bl k => exact ⟨k, r1, p1 G1 H1 W1 Nx.refl s1⟩
  | _ => exact p1.elim
theorem dt_cmp {op : CmpOp} {f : D → D → Option T} {r : R2} (ho : OpR X (compareOp op) r) (hf : OpD X.K f r) (hm : behindInMarks op b = false) (ha : DN X B Wx a ma) (hb : DN X B Wx b mb) : DT X B Wx (.Compare a [op] [b] pos) (bV (nOp f ma mb)) :=
  ptImp (pt_cmpR ho ha hb hm) fun σ H Q h => by
    obtain ⟨G, W, δ, s, p⟩ := h
    refine op_sem hf ⟨G, W, δ, s, val_B p fun G1 H1 W1 x v δ1 n1 s1 r1 p1 => ?_⟩
    cases x with
    | bl k => exact ⟨k, r1, p1 G1 H1 W1 Nx.refl s1⟩
    | _ => exact p1.elim
/-- an expression whose value is a bool, as a test -/
theorem dt_val {m : EM} (h : DN X B Wx a m) (he : ∀ whole, isTrue a X.env whole = (do let v ← whole; standAt a.pos; holding [v] (truthy v)) := by intro _; rfl) : DT X B Wx a (bV m) := ptImp (pt_val h he) fun σ H Q q => bV_sem q
def bAnd (m n : BM) : BM := fun δ => (m δ).bind fun k δ1 => if k then n δ1 else .ok false δ1
def bOr (m n : BM) : BM := fun δ => (m δ).bind fun k δ1 => if k then .ok true δ1 else n δ1
def bNot (m : BM) : BM := fun δ => (m δ).bind fun k δ1 => .ok (!k) δ1
theorem bind_B {K : PySem.W.Frag} {B : BH} {G H : Hp} {W : List Addr} {σ : St} {Q Q' : Bool → Hp → Prop} {r : R Bool} {f : Bool → Env → R Bool} (p : PoB K B G H W σ Wx Q' (r.bind f))
    (use : ∀ G' H' W' k δ', Nx G H W G' H' W' → StOk K B G' H' W' δ' σ → PoB K B G' H' W' σ Wx Q' (f k δ') → Q k H') : PoB K B G H W σ Wx Q r := by
  cases r with
  | no => exact p
  | exn c x δ' => exact p
  | ok k δ' => exact fun G' H' W' n s => use G' H' W' k δ' n s (p.next n)
theorem bind_BN {K : PySem.W.Frag} {B : BH} {G H : Hp} {W : List Addr} {σ : St} {Q : Bool → Hp → Prop} {Q' : VK} {r : R Bool} {f : Bool → Env → R T} (p : PoN K B G H W σ Wx Q' (r.bind f))
    (use : ∀ G' H' W' k δ', Nx G H W G' H' W' → StOk K B G' H' W' δ' σ → PoN K B G' H' W' σ Wx Q' (f k δ') → Q k H') : PoB K B G H W σ Wx Q r := by
  cases r with
  | no => exact p
  | exn c x δ' => exact p
  | ok k δ' => exact fun G' H' W' n s => use G' H' W' k δ' n s (p.next n)
theorem bind_BS {K : PySem.W.Frag} {B : BH} {G H : Hp} {W : List Addr} {σ : St} {Pn : List Nat} {Q : Bool → Hp → Prop} {D0 : Ends} {r : R Bool} {f : Bool → Env → R Fl} (p : PoS K B G H W σ Wx Pn D0 (r.bind f))
    (use : ∀ G' H' W' k δ', Nx G H W G' H' W' → StOk K B G' H' W' δ' σ → PoS K B G' H' W' σ Wx Pn D0 (f k δ') → Q k H') : PoB K B G H W σ Wx Q r := by
  cases r with
  | no => exact p
  | exn c x δ' => exact PoX.poE p
  | ok k δ' => exact fun G' H' W' n s => use G' H' W' k δ' n s (p.next n (fun _ _ => rfl) rfl)
/-- a test whatever its whole is -/
abbrev DW (X : Cx) (B : BH) (Wx : WX) (e : Expr) (m : BM) : Prop := PW X e (tT X.K B Wx m)
theorem pwImp {e : Expr} {t t' : TT} (h : PW X e t) (i : ∀ σ H Q, t' σ H Q → t σ H Q) : PW X e t' := ⟨fun wh pins s σ H Q I q => h.run wh pins s σ H Q I (i σ H Q q)⟩
theorem dw_and1 {m : BM} (h : DT X B Wx a m) : DW X B Wx (.BoolOp .And [a] pos) m := pw_and1 h
theorem dw_or1 {m : BM} (h : DT X B Wx a m) : DW X B Wx (.BoolOp .Or [a] pos) m := pw_or1 h
theorem dw_and {m n : BM} {r : List Expr} (h : DT X B Wx a m) (g : DW X B Wx (.BoolOp .And (b :: r) pos) n) : DW X B Wx (.BoolOp .And (a :: b :: r) pos) (bAnd m n) := pwImp (pw_and h g) fun σ H Q ⟨G, W, δ, s, p⟩ =>
  ⟨G, W, δ, s, bind_B p fun G1 H1 W1 k δ1 n1 s1 p1 => by
    cases k with
    | true => exact iteT ⟨G1, W1, δ1, s1, p1⟩
    | false => exact iteF (p1 G1 H1 W1 Nx.refl s1)⟩
theorem dw_or {m n : BM} {r : List Expr} (h : DT X B Wx a m) (g : DW X B Wx (.BoolOp .Or (b :: r) pos) n) : DW X B Wx (.BoolOp .Or (a :: b :: r) pos) (bOr m n) := pwImp (pw_or h g) fun σ H Q ⟨G, W, δ, s, p⟩ =>
  ⟨G, W, δ, s, bind_B p fun G1 H1 W1 k δ1 n1 s1 p1 => by
    cases k with
    | true => exact iteT (p1 G1 H1 W1 Nx.refl s1)
    | false => exact iteF ⟨G1, W1, δ1, s1, p1⟩⟩
theorem dt_w {e : Expr} {m : BM} (h : DW X B Wx e m) : DT X B Wx e m := h.pt
theorem dt_not {m : BM} (h : DT X B Wx a m) : DT X B Wx (.UnaryOp .Not a pos) (bNot m) := ptImp (pt_not h) fun σ H Q ⟨G, W, δ, s, p⟩ =>
  ⟨G, W, δ, s, bind_B p fun G1 H1 W1 k δ1 n1 s1 p1 => p1 G1 H1 W1 Nx.refl s1⟩
/-- a if t else b -/
def nIf (t : BM) (m n : EM) : EM := fun δ => (t δ).bind fun k δ1 => if k then m δ1 else n δ1
theorem dn_if {t : BM} {m n : EM} (ht : DT X B Wx c t) (ha : DN X B Wx a m) (hb : DN X B Wx b n) : DN X B Wx (.IfExp c a b pos) (nIf t m n) := peImp (pe_ifExp ht ha hb) fun σ H Q ⟨G, W, δ, s, p⟩ =>
  ⟨G, W, δ, s, bind_BN p fun G1 H1 W1 k δ1 n1 s1 p1 => by
    cases k with
    | true => exact iteT ⟨G1, W1, δ1, s1, p1⟩
    | false => exact iteF ⟨G1, W1, δ1, s1, p1⟩⟩
/-- and, or, not as values (bools) -/
def nAnd (m n : EM) : EM := fun δ => (m δ).val fun x δ1 => match x with
  | .bl true => n δ1
  | .bl false => .ok (.d (.bl false)) δ1
  | _ => .no
def nOr (m n : EM) : EM := fun δ => (m δ).val fun x δ1 => match x with
  | .bl true => .ok (.d (.bl true)) δ1
  | .bl false => n δ1
  | _ => .no
def nNot (m : EM) : EM := fun δ => (m δ).val fun x δ1 => match x with
  | .bl k => .ok (.d (.bl (!k))) δ1
  | _ => .no
theorem dn_one {op} {m : EM} (h : DN X B Wx a m) : DN X B Wx (.BoolOp op [a] pos) m := pe_one h
theorem dn_and {m n : EM} {r : List Expr} (h : DN X B Wx a m) (g : DN X B Wx (.BoolOp .And (b :: r) pos) n) : DN X B Wx (.BoolOp .And (a :: b :: r) pos) (nAnd m n) := peImp (pe_and h g) fun σ H Q ⟨G, W, δ, s, p⟩ =>
  ⟨G, W, δ, s, val_N p fun G1 H1 W1 x v δ1 n1 s1 r1 p1 => by
    cases x with
    | bl k =>
      cases k with
      | true => exact ⟨true, r1, iteT ⟨G1, W1, δ1, s1, p1⟩⟩
      | false => exact ⟨false, r1, iteF (ret_d s1 p1 rfl)⟩
    | _ => exact p1.elim⟩
theorem dn_or {m n : EM} {r : List Expr} (h : DN X B Wx a m) (g : DN X B Wx (.BoolOp .Or (b :: r) pos) n) : DN X B Wx (.BoolOp .Or (a :: b :: r) pos) (nOr m n) := peImp (pe_or h g) fun σ H Q ⟨G, W, δ, s, p⟩ =>
  ⟨G, W, δ, s, val_N p fun G1 H1 W1 x v δ1 n1 s1 r1 p1 => by
    cases x with
    | bl k =>
      cases k with
      | true => exact ⟨true, r1, iteT (ret_d s1 p1 rfl)⟩
      | false => exact ⟨false, r1, iteF ⟨G1, W1, δ1, s1, p1⟩⟩
    | _ => exact p1.elim⟩
theorem dn_not {m : EM} (h : DN X B Wx a m) : DN X B Wx (.UnaryOp .Not a pos) (nNot m) := peImp (pe_not h) fun σ H Q ⟨G, W, δ, s, p⟩ =>
  ⟨G, W, δ, s, val_N p fun G1 H1 W1 x v δ1 n1 s1 r1 p1 => by
    cases x with
    | bl k => exact ⟨k, r1, ret_d s1 p1 rfl⟩
    | _ => exact p1.elim⟩
/-- -a -/
def nNeg (m : EM) : EM := fun δ => (m δ).val fun x δ1 => match x with
  | .int i => .ok (.d (.int (-i))) δ1
  | _ => .no
theorem dn_neg {m : EM} (h : DN X B Wx a m) : DN X B Wx (.UnaryOp .USub a pos) (nNeg m) := peImp (pe_un un_neg h) fun σ H Q ⟨G, W, δ, s, p⟩ =>
  ⟨G, W, δ, s, val_N p fun G1 H1 W1 x v δ1 n1 s1 r1 p1 => by
    cases x with
    | int i => exact ⟨i, r1, ret_d s1 p1 rfl⟩
    | _ => exact p1.elim⟩
end
end L2.DL

namespace L2.DL
open PySem PySem.Spec PyProof.Rows

/-! ### == of data -/
mutual
/-- x == y for nesting below n; none: not told here -/
def eqf : Nat → D → D → Option Bool
  | 0, _, _ => none
  | _ + 1, .non, .non => some true
  | _ + 1, .non, .bl _ => some false
  | _ + 1, .non, .int _ => some false
  | _ + 1, .non, .str _ => some false
  | _ + 1, .non, .tup _ => some false
  | _ + 1, .non, .lst _ => some false
  | _ + 1, .bl _, .non => some false
  | _ + 1, .bl a, .bl b => some (a == b)
  | _ + 1, .bl a, .int b => some ((if a then 1 else 0) == b)
  | _ + 1, .bl _, .str _ => some false
  | _ + 1, .int _, .non => some false
  | _ + 1, .int a, .bl b => some (a == (if b then 1 else 0))
  | _ + 1, .int a, .int b => some (a == b)
  | _ + 1, .int _, .str _ => some false
  | _ + 1, .int _, .tup _ => some false
  | _ + 1, .int _, .lst _ => some false
  | _ + 1, .str _, .non => some false
  | _ + 1, .str _, .bl _ => some false
  | _ + 1, .str _, .int _ => some false
  | _ + 1, .str a, .str b => some (a == b)
  | _ + 1, .str _, .tup _ => some false
  | _ + 1, .str _, .lst _ => some false
  | _ + 1, .tup _, .non => some false
  | _ + 1, .tup _, .int _ => some false
  | _ + 1, .tup _, .str _ => some false
  | n + 1, .tup xs, .tup ys => eqs n xs ys
  | _ + 1, .tup _, .lst _ => some false
  | _ + 1, .lst _, .non => some false
  | _ + 1, .lst _, .int _ => some false
  | _ + 1, .lst _, .str _ => some false
  | _ + 1, .lst _, .tup _ => some false
  | n + 1, .lst xs, .lst ys => if xs.length = ys.length then eqs n xs ys else some false
  | _ + 1, _, _ => none
/-- item by item; every pair must be told -/
def eqs : Nat → List D → List D → Option Bool
  | _, [], [] => some true
  | _, [], _ :: _ => some false
  | _, _ :: _, [] => some false
  | n, x :: xs, y :: ys => match eqf n x y, eqs n xs ys with
    | some a, some b => some (a && b)
    | _, _ => none
end
/-- tuples are told once -/
structure Inj (K : PySem.W.Frag) (H : Hp) : Prop where
  tup : ∀ a xs ys, SqT K H a xs → SqT K H a ys → xs = ys
  no : ∀ a xs ys, SqT K H a xs → H a = some (.lst ys) → False
theorem invInj {X : Cx} {pins : List (Addr × Obj)} {σ : St} {H : Hp} {s : Shared} (I : Inv X pins σ H s) : Inj X.K H := by
  refine ⟨fun a xs ys h1 h2 => I.tuple_inj h1 h2, fun a xs ys h1 h2 => ?_⟩
  obtain ⟨its, _, ⟨o, e, c, n, d⟩, _⟩ := I.tuple h1
  obtain ⟨_, _, _, e2, _⟩ := I.lst h2
  rw [e] at e2
  cases e2
  exact absurd c (by simp)
section
variable {K : PySem.W.Frag} {H : Hp}
mutual
theorem eqf_same (J : Inj K H) : ∀ (n : Nat) (x y : D) (v : V) (k : Bool), eqf n x y = some k → RepD K H x v → RepD K H y v → k = true
  | 0, x, y, v, k, e, h1, h2 => by cases y <;> cases x <;> simp [eqf] at e
  | n + 1, .tup xs, .tup ys, v, k, e, h1, h2 => by
    obtain ⟨a, vs, e1, q1, r1⟩ := h1
    obtain ⟨b, ws, e2, q2, r2⟩ := h2
    rw [e1] at e2
    cases e2
    have ev := J.tup a vs ws q1 q2
    subst ev
    exact eqs_same J n xs ys vs k (by simpa [eqf] using e) r1 r2
  | n + 1, .lst xs, .lst ys, v, k, e, h1, h2 => by
    obtain ⟨a, vs, e1, q1, r1⟩ := h1
    obtain ⟨b, ws, e2, q2, r2⟩ := h2
    rw [e1] at e2
    cases e2
    rw [q1] at q2
    cases q2
    have hl : xs.length = ys.length := r1.length.symm.trans r2.length
    exact eqs_same J n xs ys vs k (by simpa [eqf, hl] using e) r1 r2
  | n + 1, .tup xs, .lst ys, v, k, e, h1, h2 => by
    obtain ⟨a, vs, e1, q1, r1⟩ := h1
    obtain ⟨b, ws, e2, q2, r2⟩ := h2
    rw [e1] at e2
    cases e2
    exact (J.no _ _ _ q1 q2).elim
  | n + 1, .lst xs, .tup ys, v, k, e, h1, h2 => by
    obtain ⟨a, vs, e1, q1, r1⟩ := h1
    obtain ⟨b, ws, e2, q2, r2⟩ := h2
    rw [e1] at e2
    cases e2
    exact (J.no _ _ _ q2 q1).elim
  | n + 1, .non, y, v, k, e, h1, h2 => by
    cases y <;> simp only [eqf] at e <;> first
      | (cases e; done)
      | (simp only [RepD] at h1 h2; subst h1; simp_all; done)
  | n + 1, .bl _, y, v, k, e, h1, h2 => by
    cases y <;> simp only [eqf] at e <;> first
      | (cases e; done)
      | (simp only [RepD] at h1 h2; subst h1; simp_all; done)
  | n + 1, .int _, y, v, k, e, h1, h2 => by
    cases y <;> simp only [eqf] at e <;> first
      | (cases e; done)
      | (simp only [RepD] at h1 h2; subst h1; simp_all; done)
  | n + 1, .str _, y, v, k, e, h1, h2 => by
    cases y <;> simp only [eqf] at e <;> first
      | (cases e; done)
      | (simp only [RepD] at h1 h2; subst h1; simp_all; done)
  | n + 1, .tup xs, .non, v, k, e, h1, h2 | n + 1, .tup xs, .bl _, v, k, e, h1, h2 | n + 1, .tup xs, .int _, v, k, e, h1, h2 | n + 1, .tup xs, .str _, v, k, e, h1, h2
  | n + 1, .tup xs, .dic _ _, v, k, e, h1, h2 | n + 1, .tup xs, .ins _ _ _, v, k, e, h1, h2 | n + 1, .tup xs, .cls _, v, k, e, h1, h2 | n + 1, .tup xs, .ty _, v, k, e, h1, h2
  | n + 1, .tup xs, .scr _, v, k, e, h1, h2 | n + 1, .tup xs, .fn _ _, v, k, e, h1, h2 => by
    simp only [eqf] at e <;> first
      | (cases e; done)
      | (simp only [RepD] at h1 h2; subst h2; simp at h1; done)
  | n + 1, .lst xs, .non, v, k, e, h1, h2 | n + 1, .lst xs, .bl _, v, k, e, h1, h2 | n + 1, .lst xs, .int _, v, k, e, h1, h2 | n + 1, .lst xs, .str _, v, k, e, h1, h2
  | n + 1, .lst xs, .dic _ _, v, k, e, h1, h2 | n + 1, .lst xs, .ins _ _ _, v, k, e, h1, h2 | n + 1, .lst xs, .cls _, v, k, e, h1, h2 | n + 1, .lst xs, .ty _, v, k, e, h1, h2
  | n + 1, .lst xs, .scr _, v, k, e, h1, h2 | n + 1, .lst xs, .fn _ _, v, k, e, h1, h2 => by
    simp only [eqf] at e <;> first
      | (cases e; done)
      | (simp only [RepD] at h1 h2; subst h2; simp at h1; done)
  | n + 1, .dic _ _, _, v, k, e, _, _ | n + 1, .ins _ _ _, _, v, k, e, _, _ | n + 1, .cls _, _, v, k, e, _, _ | n + 1, .ty _, _, v, k, e, _, _ | n + 1, .scr _, _, v, k, e, _, _ | n + 1, .fn _ _, _, v, k, e, _, _ => by
    simp [eqf] at e
theorem eqs_same (J : Inj K H) : ∀ (n : Nat) (xs ys : List D) (vs : List V) (k : Bool), eqs n xs ys = some k → RepDs K H xs vs → RepDs K H ys vs → k = true
  | _, [], [], _, k, e, _, _ => by simpa [eqs] using e.symm
  | _, [], _ :: _, _, k, e, h1, h2 => by
    obtain ⟨_, _, e2, _⟩ := h2
    rw [show _ = _ from h1] at e2
    cases e2
  | _, _ :: _, [], _, k, e, h1, h2 => by
    obtain ⟨_, _, e2, _⟩ := h1
    rw [show _ = _ from h2] at e2
    cases e2
  | n, x :: xs, y :: ys, vs, k, e, h1, h2 => by
    obtain ⟨v, r, e1, a1, b1⟩ := h1
    obtain ⟨v', r', e2, a2, b2⟩ := h2
    rw [e1] at e2
    cases e2
    cases q1 : eqf n x y with
    | none => simp [eqs, q1] at e
    | some a =>
      cases q2 : eqs n xs ys with
      | none => simp [eqs, q1, q2] at e
      | some b =>
        have := eqf_same J n x y v a q1 a1 a2
        have := eqs_same J n xs ys r b q2 b1 b2
        simp [eqs, q1, q2] at e
        simp_all
end
end
theorem eqs_pair : ∀ {n : Nat} {xs ys : List D} {k : Bool} {j : Nat} {x y : D}, eqs n xs ys = some k → xs[j]? = some x → ys[j]? = some y → ∃ b, eqf n x y = some b
  | _, [], _, _, _, _, _, _, h, _ => by cases h
  | _, _ :: _, [], _, _, _, _, _, _, h => by cases h
  | n, x :: xs, y :: ys, k, 0, _, _, e, h1, h2 => by
    cases h1
    cases h2
    cases q1 : eqf n x y with
    | none => simp [eqs, q1] at e
    | some a => exact ⟨a, rfl⟩
  | n, x :: xs, y :: ys, k, j + 1, _, _, e, h1, h2 => by
    cases q1 : eqf n x y with
    | none => simp [eqs, q1] at e
    | some a =>
      cases q2 : eqs n xs ys with
      | none => simp [eqs, q1, q2] at e
      | some b => exact eqs_pair (j := j) q2 (by simpa using h1) (by simpa using h2)
def eqj (n : Nat) (xs ys : List D) (j : Nat) : Bool := (eqf n (xs.getD j .non) (ys.getD j .non)).getD false
theorem eqs_val : ∀ {n : Nat} {xs ys : List D} {k : Bool}, eqs n xs ys = some k → ((List.range (min xs.length ys.length)).all (eqj n xs ys) && xs.length == ys.length) = k
  | _, [], [], k, e => by simp [eqs] at e; simp [e]
  | _, [], _ :: _, k, e => by simp [eqs] at e; simp [← e]
  | _, _ :: _, [], k, e => by simp [eqs] at e; simp [← e]
  | n, x :: xs, y :: ys, k, e => by
    cases q1 : eqf n x y with
    | none => simp [eqs, q1] at e
    | some a =>
      cases q2 : eqs n xs ys with
      | none => simp [eqs, q1, q2] at e
      | some b =>
        have ih := eqs_val q2
        have e1 : min (x :: xs).length (y :: ys).length = min xs.length ys.length + 1 := by simp only [List.length_cons]; omega
        have e2 : (List.range (min xs.length ys.length + 1)).all (eqj n (x :: xs) (y :: ys)) = (a && (List.range (min xs.length ys.length)).all (eqj n xs ys)) := by
          rw [List.range_succ_eq_map, List.all_cons, List.all_map]
          congr 1
          simp [eqj, q1]
        rw [e1, e2, Bool.and_assoc]
        have e3 : ((x :: xs).length == (y :: ys).length) = (xs.length == ys.length) := by simp
        rw [e3, ih]
        simpa [eqs, q1, q2] using e
theorem vals_item {K : PySem.W.Frag} {H : Hp} : ∀ {xs : List D} {vs : List V} {us : List Value} {j : Nat} {u : Value}, RepDs K H xs vs → Vals vs us → us[j]? = some u → ∃ x v, xs[j]? = some x ∧ RepD K H x v ∧ RelV v u ∧ xs.getD j .non = x
  | [], _, _, _, _, h, r, e => by
    rw [show _ = _ from h] at r
    cases r
    cases e
  | x :: xs, _, _, 0, u, ⟨v, r, e1, a, b⟩, q, e => by
    subst e1
    cases q with
    | cons q1 q2 =>
      cases e
      exact ⟨x, v, rfl, a, q1, rfl⟩
  | x :: xs, _, _, j + 1, u, ⟨v, r, e1, a, b⟩, q, e => by
    subst e1
    cases q with
    | cons q1 q2 =>
      obtain ⟨y, w, h1, h2, h3, h4⟩ := vals_item (j := j) b q2 (by simpa using e)
      exact ⟨y, w, by simpa using h1, h2, h3, by simpa using h4⟩
theorem inLst {X : Cx} {pins : List (Addr × Obj)} {σ : St} {H : Hp} {s : Shared} (I : Inv X pins σ H s) {xs : List D} {v : V} {u : Value} (h : RepD X.K H (.lst xs) v) (r : RelV v u) :
    ∃ a vs, ∃ us : List Value, u = .ref a ∧ v = .ref a ∧ RepDs X.K H xs vs ∧ Vals vs us ∧ s.heap.IsList a us.toArray ∧ us.length = xs.length := by
  obtain ⟨a, vs, e, q, rr⟩ := h
  subst e
  obtain ⟨its, rv, p, _⟩ := I.list (SqL.of q)
  exact ⟨a, vs, its, r, rfl, rr, rv, p.isList, rv.length.symm.trans rr.length⟩
theorem inTup {X : Cx} {pins : List (Addr × Obj)} {σ : St} {H : Hp} {s : Shared} (I : Inv X pins σ H s) {xs : List D} {v : V} {u : Value} (h : RepD X.K H (.tup xs) v) (r : RelV v u) :
    ∃ a vs, ∃ us : List Value, u = .ref a ∧ v = .ref a ∧ RepDs X.K H xs vs ∧ Vals vs us ∧ s.heap.IsTuple a us.toArray ∧ us.length = xs.length := by
  obtain ⟨a, vs, e, q, rr⟩ := h
  subst e
  obtain ⟨its, rv, p, _⟩ := I.tuple q
  exact ⟨a, vs, its, r, rfl, rr, rv, p, rv.length.symm.trans rr.length⟩
open PySem.SeqAt in
theorem eqAt_D {X : Cx} {pins : List (Addr × Obj)} {σ : St} {H : Hp} {s : Shared} (I : Inv X pins σ H s) : ∀ (n : Nat) (x y : D) (a b : V) (v u : Value) (k : Bool) (A : Around), eqf n x y = some k → RepD X.K H x a → RepD X.K H y b → RelV a v → RelV b u → A.units + n < cLine →
    (EqAt A s v u k ∧ RcAt A s v u k ∧ RcNeAt A s v u (!k)) := by
  intro n
  induction n with
  | zero => intro x y a b v u k A e; cases y <;> cases x <;> simp [eqf] at e
  | succ n ih =>
    intro x y a b v u k A e h1 h2 r1 r2 hu
    have hu0 : A.units < cLine := by omega
    have hu1 : A.in1.units + n < cLine := by show A.units + 1 + n < cLine; omega
    cases x with
    | non =>
      cases (show a = .non from h1)
      cases (show v = Value.none from r1)
      cases y with
      | non => cases (show b = .non from h2); cases (show u = Value.none from r2); simp [eqf] at e; subst e; exact ⟨.same _, .none_none, .none_none⟩
      | bl j => cases (show b = .bl j from h2); cases (show u = Value.bool j from r2); simp [eqf] at e; subst e; exact ⟨.none_bool _, .none_bool _, .none_bool _⟩
      | int j => cases (show b = .int j from h2); obtain ⟨t, rfl⟩ := r2; simp [eqf] at e; subst e; exact ⟨.none_int _ _, .none_int _ _, .none_int _ _⟩
      | str j => cases (show b = .str j from h2); obtain ⟨t, rfl⟩ := r2; simp [eqf] at e; subst e; exact ⟨.none_str _ _, .none_str _ _, .none_str _ _⟩
      | tup ys => obtain ⟨q, _, us, rfl, _, _, _, p, _⟩ := inTup I h2 r2; simp [eqf] at e; subst e; exact ⟨.none_tuple p hu0, .none_tuple p hu0, .none_tuple p hu0⟩
      | lst ys => obtain ⟨q, _, us, rfl, _, _, _, p, _⟩ := inLst I h2 r2; simp [eqf] at e; subst e; exact ⟨.none_list p hu0, .none_list p hu0, .none_list p hu0⟩
      | _ => simp [eqf] at e
    | bl i =>
      cases (show a = .bl i from h1)
      cases (show v = Value.bool i from r1)
      cases y with
      | non => cases (show b = .non from h2); cases (show u = Value.none from r2); simp [eqf] at e; subst e; exact ⟨.bool_none _, .bool_none _, .bool_none _⟩
      | bl j => cases (show b = .bl j from h2); cases (show u = Value.bool j from r2); simp only [eqf, Option.some.injEq] at e; subst e; exact ⟨.bool_bool _ _, .bool_bool _ _, .bool_bool _ _⟩
      | int j => cases (show b = .int j from h2); obtain ⟨t, rfl⟩ := r2; simp only [eqf, Option.some.injEq] at e; subst e; exact ⟨.bool_int _ _ _, .bool_int _ _ _, .bool_int _ _ _⟩
      | str j => cases (show b = .str j from h2); obtain ⟨t, rfl⟩ := r2; simp [eqf] at e; subst e; exact ⟨.bool_str _ _ _, .bool_str _ _ _, .bool_str _ _ _⟩
      | _ => simp [eqf] at e
    | int i =>
      cases (show a = .int i from h1)
      obtain ⟨t0, rfl⟩ := r1
      cases y with
      | non => cases (show b = .non from h2); cases (show u = Value.none from r2); simp [eqf] at e; subst e; exact ⟨.int_none _ _, .int_none _ _, .int_none _ _⟩
      | bl j => cases (show b = .bl j from h2); cases (show u = Value.bool j from r2); simp only [eqf, Option.some.injEq] at e; subst e; exact ⟨.int_bool _ _ _, .int_bool _ _ _, .int_bool _ _ _⟩
      | int j => cases (show b = .int j from h2); obtain ⟨t, rfl⟩ := r2; simp only [eqf, Option.some.injEq] at e; subst e; exact ⟨.int_int _ _ _ _, .int_int _ _ _ _, .int_int _ _ _ _⟩
      | str j => cases (show b = .str j from h2); obtain ⟨t, rfl⟩ := r2; simp [eqf] at e; subst e; exact ⟨.int_str _ _ _ _, .int_str _ _ _ _, .int_str _ _ _ _⟩
      | tup ys => obtain ⟨q, _, us, rfl, _, _, _, p, _⟩ := inTup I h2 r2; simp [eqf] at e; subst e; exact ⟨.int_tuple _ _ p hu0, .int_tuple _ _ p hu0, .int_tuple _ _ p hu0⟩
      | lst ys => obtain ⟨q, _, us, rfl, _, _, _, p, _⟩ := inLst I h2 r2; simp [eqf] at e; subst e; exact ⟨.int_list _ _ p hu0, .int_list _ _ p hu0, .int_list _ _ p hu0⟩
      | _ => simp [eqf] at e
    | str i =>
      cases (show a = .str i from h1)
      obtain ⟨t0, rfl⟩ := r1
      cases y with
      | non => cases (show b = .non from h2); cases (show u = Value.none from r2); simp [eqf] at e; subst e; exact ⟨.str_none _ _, .str_none _ _, .str_none _ _⟩
      | bl j => cases (show b = .bl j from h2); cases (show u = Value.bool j from r2); simp [eqf] at e; subst e; exact ⟨.str_bool _ _ _, .str_bool _ _ _, .str_bool _ _ _⟩
      | int j => cases (show b = .int j from h2); obtain ⟨t, rfl⟩ := r2; simp [eqf] at e; subst e; exact ⟨.str_int _ _ _ _, .str_int _ _ _ _, .str_int _ _ _ _⟩
      | str j => cases (show b = .str j from h2); obtain ⟨t, rfl⟩ := r2; simp only [eqf, Option.some.injEq] at e; subst e; exact ⟨.str_str _ _ _ _, .str_str _ _ _ _, .str_str _ _ _ _⟩
      | tup ys => obtain ⟨q, _, us, rfl, _, _, _, p, _⟩ := inTup I h2 r2; simp [eqf] at e; subst e; exact ⟨.str_tuple _ _ p hu0, .str_tuple _ _ p hu0, .str_tuple _ _ p hu0⟩
      | lst ys => obtain ⟨q, _, us, rfl, _, _, _, p, _⟩ := inLst I h2 r2; simp [eqf] at e; subst e; exact ⟨.str_list _ _ p hu0, .str_list _ _ p hu0, .str_list _ _ p hu0⟩
      | _ => simp [eqf] at e
    | tup xs =>
      obtain ⟨q, vs, us, rfl, rfl, d1, w1, p, l1⟩ := inTup I h1 r1
      cases y with
      | non => cases (show b = .non from h2); cases (show u = Value.none from r2); simp [eqf] at e; subst e; exact ⟨.tuple_none p hu0, .tuple_none p hu0, .tuple_none p hu0⟩
      | int j => cases (show b = .int j from h2); obtain ⟨t, rfl⟩ := r2; simp [eqf] at e; subst e; exact ⟨.tuple_int _ _ p hu0, .tuple_int _ _ p hu0, .tuple_int _ _ p hu0⟩
      | str j => cases (show b = .str j from h2); obtain ⟨t, rfl⟩ := r2; simp [eqf] at e; subst e; exact ⟨.tuple_str _ _ p hu0, .tuple_str _ _ p hu0, .tuple_str _ _ p hu0⟩
      | lst ys => obtain ⟨q2, _, us2, rfl, _, _, _, p2, _⟩ := inLst I h2 r2; simp [eqf] at e; subst e; exact ⟨.tuple_list p p2 hu0, .tuple_list p p2 hu0, .tuple_list p p2 hu0⟩
      | tup ys =>
        obtain ⟨q2, ws, us2, rfl, rfl, d2, w2, p2, l2⟩ := inTup I h2 r2
        have e' : eqs n xs ys = some k := by simpa [eqf] using e
        have R : RcAt A s (.ref q) (.ref q2) k ∧ RcNeAt A s (.ref q) (.ref q2) (!k) := by
          have it : ∀ j (g1 : j < us.toArray.size) (g2 : j < us2.toArray.size), EqAt A.in1 s us.toArray[j] us2.toArray[j] (eqj n xs ys j) := (fun j g1 g2 => by
            obtain ⟨x, v, i1, i2, i3, i4⟩ := vals_item (j := j) (u := us.toArray[j]) d1 w1 (by simp at g1 ⊢)
            obtain ⟨y, v', j1, j2, j3, j4⟩ := vals_item (j := j) (u := us2.toArray[j]) d2 w2 (by simp at g2 ⊢)
            obtain ⟨c, hc⟩ := eqs_pair e' i1 j1
            have z := (ih x y v v' _ _ c A.in1 hc i2 j2 i3 j3 hu1).1
            rw [show eqj n xs ys j = c by unfold eqj; rw [i4, j4, hc]; rfl]
            exact z)
          have t1 := RcAt.tuples p p2 hu0 it
          have t2 := RcNeAt.tuples p p2 hu0 it
          rw [show us.toArray.size = xs.length by simpa using l1, show us2.toArray.size = ys.length by simpa using l2, eqs_val e'] at t1 t2
          exact ⟨t1, t2⟩
        refine ⟨?_, R⟩
        by_cases hne : q = q2
        · subst hne
          have := eqf_same (invInj I) (n + 1) (.tup xs) (.tup ys) _ k e h1 h2
          subst this
          exact .same _
        · exact .of_refs hne R.1
      | _ => simp [eqf] at e
    | lst xs =>
      obtain ⟨q, vs, us, rfl, rfl, d1, w1, p, l1⟩ := inLst I h1 r1
      cases y with
      | non => cases (show b = .non from h2); cases (show u = Value.none from r2); simp [eqf] at e; subst e; exact ⟨.list_none p hu0, .list_none p hu0, .list_none p hu0⟩
      | int j => cases (show b = .int j from h2); obtain ⟨t, rfl⟩ := r2; simp [eqf] at e; subst e; exact ⟨.list_int _ _ p hu0, .list_int _ _ p hu0, .list_int _ _ p hu0⟩
      | str j => cases (show b = .str j from h2); obtain ⟨t, rfl⟩ := r2; simp [eqf] at e; subst e; exact ⟨.list_str _ _ p hu0, .list_str _ _ p hu0, .list_str _ _ p hu0⟩
      | tup ys => obtain ⟨q2, _, us2, rfl, _, _, _, p2, _⟩ := inTup I h2 r2; simp [eqf] at e; subst e; exact ⟨.list_tuple p p2 hu0, .list_tuple p p2 hu0, .list_tuple p p2 hu0⟩
      | lst ys =>
        obtain ⟨q2, ws, us2, rfl, rfl, d2, w2, p2, l2⟩ := inLst I h2 r2
        have R : RcAt A s (.ref q) (.ref q2) k ∧ RcNeAt A s (.ref q) (.ref q2) (!k) := by
          by_cases hl : xs.length = ys.length
          · have e' : eqs n xs ys = some k := by simpa [eqf, hl] using e
            have it : ∀ j (g1 : j < us.toArray.size) (g2 : j < us2.toArray.size), EqAt A.in1 s us.toArray[j] us2.toArray[j] (eqj n xs ys j) := (fun j g1 g2 => by
              obtain ⟨x, v, i1, i2, i3, i4⟩ := vals_item (j := j) (u := us.toArray[j]) d1 w1 (by simp at g1 ⊢)
              obtain ⟨y, v', j1, j2, j3, j4⟩ := vals_item (j := j) (u := us2.toArray[j]) d2 w2 (by simp at g2 ⊢)
              obtain ⟨c, hc⟩ := eqs_pair e' i1 j1
              have z := (ih x y v v' _ _ c A.in1 hc i2 j2 i3 j3 hu1).1
              rw [show eqj n xs ys j = c by unfold eqj; rw [i4, j4, hc]; rfl]
              exact z)
            have t1 := RcAt.lists p p2 (by simp [l1, l2, hl]) hu0 it
            have t2 := RcNeAt.lists p p2 (by simp [l1, l2, hl]) hu0 it
            have z := eqs_val e'
            rw [show (xs.length == ys.length) = true by simpa using hl, Bool.and_true, ← hl, Nat.min_self] at z
            rw [show us.toArray.size = xs.length by simpa using l1, z] at t1 t2
            exact ⟨t1, t2⟩
          · have e' : k = false := by simpa [eqf, hl] using e.symm
            subst e'
            exact ⟨RcAt.lists_lengths p p2 (by simp [l1, l2, hl]) hu0, RcNeAt.lists_lengths p p2 (by simp [l1, l2, hl]) hu0⟩
        refine ⟨?_, R⟩
        by_cases hne : q = q2
        · subst hne
          have := eqf_same (invInj I) (n + 1) (.lst xs) (.lst ys) _ k e h1 h2
          subst this
          exact .same _
        · exact .of_refs hne R.1
      | _ => simp [eqf] at e
    | _ => simp [eqf] at e

/-! ### the rules of == and != -/
def rEqf (K : PySem.W.Frag) : R2 := fun v u H Q => ∃ x y k, RepD K H x v ∧ RepD K H y u ∧ eqf 40 x y = some k ∧ Q (.bl k) H
def rNef (K : PySem.W.Frag) : R2 := fun v u H Q => ∃ x y k, RepD K H x v ∧ RepD K H y u ∧ eqf 40 x y = some k ∧ Q (.bl (!k)) H
section
variable {X : Cx}
theorem op_eqf (hu : X.A.units + 64 < cLine) : OpR X (compareOp .Eq) (rEqf X.K) := by
  intro pins s σ H a b v u Q I ra rb h
  obtain ⟨x, y, k, h1, h2, e, q⟩ := h
  exact (eqAt_D I 40 x y a b v u k X.A e h1 h2 ra rb (by omega)).2.1 _ _ _ _ ⟨.bl k, H, I, rfl, q⟩
theorem op_nef (hu : X.A.units + 64 < cLine) : OpR X (compareOp .NotEq) (rNef X.K) := by
  intro pins s σ H a b v u Q I ra rb h
  obtain ⟨x, y, k, h1, h2, e, q⟩ := h
  exact (eqAt_D I 40 x y a b v u k X.A e h1 h2 ra rb (by omega)).2.2 _ _ _ _ ⟨.bl (!k), H, I, rfl, q⟩
def fEq (x y : D) : Option T := (eqf 40 x y).map fun k => .d (.bl k)
def fNe (x y : D) : Option T := (eqf 40 x y).map fun k => .d (.bl (!k))
theorem od_eq {K : PySem.W.Frag} : OpD K fEq (rEqf K) := by
  intro B G H x y v u t Q sb h1 h2 e k
  unfold fEq at e
  cases q : eqf 40 x y with
  | none => rw [q] at e; cases e
  | some c =>
    rw [q] at e
    cases e
    exact ⟨x, y, c, h1.mono sb, h2.mono sb, q, same_end sb k rfl⟩
theorem od_ne {K : PySem.W.Frag} : OpD K fNe (rNef K) := by
  intro B G H x y v u t Q sb h1 h2 e k
  unfold fNe at e
  cases q : eqf 40 x y with
  | none => rw [q] at e; cases e
  | some c =>
    rw [q] at e
    cases e
    exact ⟨x, y, c, h1.mono sb, h2.mono sb, q, same_end sb k rfl⟩
end
end L2.DL

namespace L2.DL
open PySem PySem.Spec PyProof.Rows

/-! ### numbers, texts, lists: the operators -/
def szL : Nat := 16777216
theorem szL_eq : sizeLine = szL := sizeLine_eq
def fAdd : D → D → Option T
  | .int i, .int j => some (.d (.int (i + j)))
  | .str x, .str y => if x.length + y.length ≤ szL then some (.d (.str (x ++ y))) else none
  | .lst xs, .lst ys => if xs.length + ys.length ≤ szL then some (.lst ((xs ++ ys).map T.d)) else none
  | .tup (x :: xs), .tup (y :: ys) => if (x :: xs).length + (y :: ys).length ≤ szL then some (.d (.tup (x :: xs ++ y :: ys))) else none
  | _, _ => none
def fSub : D → D → Option T
  | .int i, .int j => some (.d (.int (i - j)))
  | _, _ => none
def fMul : D → D → Option T
  | .int i, .int j => if i.natAbs.log2 + j.natAbs.log2 < 1000000 then some (.d (.int (i * j))) else none
  | .str x, .int n => if 0 ≤ n ∧ n ≤ 100000 ∧ x.length * n.toNat ≤ szL then some (.d (.str (Txt.mul x n))) else none
  | .lst xs, .int k => if 0 ≤ k ∧ k < 1000000 ∧ xs.length * k.toNat ≤ szL then some (.lst ((List.replicate k.toNat xs).flatten.map T.d)) else none
  | _, _ => none
def fMod : D → D → Option T
  | .int i, .int j => if 0 < j then some (.d (.int (i % j))) else none
  | _, _ => none
def fDiv : D → D → Option T
  | .int i, .int j => if 0 < j ∧ j.natAbs.log2 < 9000 then some (.d (.int (i / j))) else none
  | _, _ => none
def fPow : D → D → Option T
  | .int i, .int j => if 0 ≤ j ∧ j ≤ 1000000 ∧ i.natAbs < 2 ^ 64 then some (.d (.int (i ^ j.toNat))) else none
  | _, _ => none
def fLt : D → D → Option T
  | .int i, .int j => some (.d (.bl (decide (i < j))))
  | .str x, .str y => some (.d (.bl (decide (x.cps.toList < y.cps.toList))))
  | _, _ => none
def fLe : D → D → Option T
  | .int i, .int j => some (.d (.bl (decide (i ≤ j))))
  | .str x, .str y => some (.d (.bl (!decide (y.cps.toList < x.cps.toList))))
  | _, _ => none
def fGt : D → D → Option T
  | .int i, .int j => some (.d (.bl (decide (j < i))))
  | .str x, .str y => some (.d (.bl (decide (y.cps.toList < x.cps.toList))))
  | _, _ => none
def fGe : D → D → Option T
  | .int i, .int j => some (.d (.bl (decide (j ≤ i))))
  | .str x, .str y => some (.d (.bl (!decide (x.cps.toList < y.cps.toList))))
  | _, _ => none
/-- is None -/
def isN : D → Bool
  | .non => true
  | _ => false
def fIs : D → D → Option T
  | x, .non => some (.d (.bl (isN x)))
  | _, _ => none
def fIsNot : D → D → Option T
  | x, .non => some (.d (.bl (!isN x)))
  | _, _ => none
def flat? : D → Option V
  | .non => some .non
  | .bl b => some (.bl b)
  | .int i => some (.int i)
  | .str s => some (.str s)
  | _ => none
def flats? : List D → Option (List V)
  | [] => some []
  | x :: xs => match flat? x, flats? xs with
    | some v, some vs => some (v :: vs)
    | _, _ => none
def inD : D → D → Option Bool
  | x, .lst ys => match flat? x, flats? ys with
    | some v, some vs => some (inV v vs)
    | _, _ => none
  | x, .tup ys => match flat? x, flats? ys with
    | some v, some vs => some (inV v vs)
    | _, _ => none
  | .str x, .str z => match x.cps.toList with
    | [c] => some (decide (c ∈ z.cps.toList))
    | _ => none
  | _, _ => none
def fIn (x y : D) : Option T := (inD x y).map fun k => .d (.bl k)
def fNotIn (x y : D) : Option T := (inD x y).map fun k => .d (.bl (!k))
section
variable {K : PySem.W.Frag} {G H : Hp}
theorem isN_rep {x : D} {v : V} (h : RepD K G x v) : decide (v = .non) = isN x := by
  cases x <;> simp only [RepD] at h <;> first
    | (subst h; rfl)
    | (obtain ⟨a, vs, e, _⟩ := h; subst e; rfl)
    | (obtain ⟨a, dx, vs, e, _⟩ := h; subst e; rfl)
    | exact h.elim
theorem flat_rep : ∀ {x : D} {v w : V}, flat? x = some w → RepD K G x v → v = w ∧ flatV w = true
  | .non, _, _, e, h => by cases e; exact ⟨h, rfl⟩
  | .bl _, _, _, e, h => by cases e; exact ⟨h, rfl⟩
  | .int _, _, _, e, h => by cases e; exact ⟨h, rfl⟩
  | .str _, _, _, e, h => by cases e; exact ⟨h, rfl⟩
theorem flats_rep : ∀ {xs : List D} {vs ws : List V}, flats? xs = some ws → RepDs K G xs vs → vs = ws ∧ ws.all flatV = true
  | [], _, _, e, h => by cases e; exact ⟨h, rfl⟩
  | x :: xs, vs, ws, e, ⟨v, r, e1, a, b⟩ => by
    unfold flats? at e
    cases q1 : flat? x with
    | none => rw [q1] at e; cases e
    | some w =>
      cases q2 : flats? xs with
      | none => rw [q1, q2] at e; cases e
      | some ws' =>
        rw [q1, q2] at e
        cases e
        obtain ⟨h1, h2⟩ := flat_rep q1 a
        obtain ⟨h3, h4⟩ := flats_rep q2 b
        subst e1 h1 h3
        exact ⟨rfl, by rw [List.all_cons, h2, h4]; rfl⟩
end
section
variable {X : Cx} {K : PySem.W.Frag}
/-- of two rules the one that serves -/
def rAddD (K : PySem.W.Frag) : R2 := fun x y H Q => (rI0 fun i j => .int (i + j)) x y H Q ∨ (∃ i j, x = .str i ∧ y = .str j ∧ i.length + j.length ≤ sizeLine ∧ Q (.str (i ++ j)) H) ∨ rCat x y H Q ∨ rCatT K x y H Q
theorem op_addD : OpR X (binaryOp .Add) (rAddD X.K) := op_add.or (op_add_str.or (op_cat.or op_catT))
theorem repDs_append {K : PySem.W.Frag} {G : Hp} : ∀ {xs ys : List D} {vs ws : List V}, RepDs K G xs vs → RepDs K G ys ws → RepDs K G (xs ++ ys) (vs ++ ws)
  | [], _, _, _, h, g => by rw [show _ = _ from h]; exact g
  | _ :: _, _, _, _, ⟨v, r, e, a, b⟩, g => ⟨v, r ++ _, by rw [e]; rfl, a, repDs_append b g⟩
theorem repDs_rep {K : PySem.W.Frag} {G : Hp} {xs : List D} {vs : List V} (h : RepDs K G xs vs) : ∀ n : Nat, RepDs K G (List.replicate n xs).flatten (List.replicate n vs).flatten
  | 0 => rfl
  | n + 1 => by
    rw [List.replicate_succ, List.replicate_succ, List.flatten_cons, List.flatten_cons]
    exact repDs_append h (repDs_rep h n)
theorem new_lst {B : BH} {G H : Hp} {xs : List D} {vs : List V} {p : Addr} {Q : VK} (sb : Same G H) (hp : H p = none) (r : RepDs K G xs vs)
    (k : ∀ G' H' Wt w, Nx G H [] G' H' Wt → Same G' H' → (∀ a ∈ Wt, G' a = none) → Wt.Nodup → RepT K B G' H' (.lst (xs.map T.d)) w Wt → Q w H') : Q (.ref p) (upd H p (.lst vs)) := by
  obtain ⟨n, s, gp, _⟩ := new_own (o := .lst vs) sb hp
  exact k _ _ [p] _ n s (fun a m => by rw [List.mem_singleton.mp m]; exact gp) (List.nodup_cons.mpr ⟨by simp, List.nodup_nil⟩) (lst_new sb hp r)
theorem new_tup {B : BH} {G H : Hp} {xs : List D} {vs : List V} {p : Addr} {Q : VK} (sb : Same G H) (hp : H p = none) (r : RepDs K G xs vs)
    (k : ∀ G' H' Wt w, Nx G H [] G' H' Wt → Same G' H' → (∀ a ∈ Wt, G' a = none) → Wt.Nodup → RepT K B G' H' (.d (.tup xs)) w Wt → Q w H') : Q (.ref p) (upd H p (.tup vs)) := by
  obtain ⟨n, s, gs, _⟩ := new_frz (o := .tup vs) sb hp
  exact k _ _ [] _ n s (fun a m => nomatch m) List.nodup_nil ⟨rfl, p, vs, rfl, SqT.of upd_same, r.mono gs⟩
theorem od_add : OpD K fAdd (rAddD K) := by
  intro B G H x y v u t Q sb h1 h2 e k
  unfold fAdd at e
  split at e
  · cases e
    exact .inl ⟨_, _, h1, h2, same_end sb k rfl⟩
  · split at e
    · cases e
      rename_i hz
      exact .inr (.inl ⟨_, _, h1, h2, by rw [szL_eq]; exact hz, same_end sb k rfl⟩)
    · cases e
  · rename_i xs ys
    split at e
    · cases e
      rename_i hz
      obtain ⟨a, vs, e1, q1, r1⟩ := h1
      obtain ⟨b, ws, e2, q2, r2⟩ := h2
      refine .inr (.inr (.inl ⟨a, b, vs, ws, e1, e2, sb _ _ q1, sb _ _ q2, by rw [r1.length, r2.length, szL_eq]; exact hz, fun p hp => ?_⟩))
      exact new_lst sb hp (repDs_append r1 r2) k
    · cases e
  · rename_i x xs y ys
    split at e
    · cases e
      rename_i hz
      obtain ⟨a, vs, e1, q1, r1⟩ := h1
      obtain ⟨b, ws, e2, q2, r2⟩ := h2
      have n1 : vs ≠ [] := by
        obtain ⟨_, _, z, _⟩ := r1
        rw [z]
        exact fun q => nomatch q
      have n2 : ws ≠ [] := by
        obtain ⟨_, _, z, _⟩ := r2
        rw [z]
        exact fun q => nomatch q
      refine .inr (.inr (.inr ⟨a, b, vs, ws, e1, e2, sqT_mono sb q1, sqT_mono sb q2, n1, by rw [r1.length, r2.length, szL_eq]; exact hz, fun z => absurd z n2, fun _ p hp => ?_⟩))
      exact new_tup sb hp (repDs_append r1 r2) k
    · cases e
  · cases e
theorem od_sub : OpD K fSub (rI0 fun i j => .int (i - j)) := by
  intro B G H x y v u t Q sb h1 h2 e k
  unfold fSub at e
  split at e
  · cases e
    exact ⟨_, _, h1, h2, same_end sb k rfl⟩
  · cases e
def rMulD : R2 := fun x y H Q => (rI CMulW fun i j => .int (i * j)) x y H Q ∨ (∃ i n, x = .str i ∧ y = .int n ∧ MulOk i n ∧ Q (.str (Txt.mul i n)) H) ∨ rRep x y H Q
theorem op_mulS : OpR X (binaryOp .Mult) (fun x y H Q => ∃ i n, x = .str i ∧ y = .int n ∧ MulOk i n ∧ Q (.str (Txt.mul i n)) H) := by
  intro pins s σ H x y v u Q I rx ry h
  obtain ⟨i, n, rfl, rfl, hm, q⟩ := h
  obtain ⟨t, rfl⟩ := rx
  obtain ⟨t', rfl⟩ := ry
  exact SB.mul hm fun t' k => ⟨.str _, H, I.tok _, ⟨_, rfl⟩, q⟩
theorem op_mulD : OpR X (binaryOp .Mult) rMulD := op_mulW.or (op_mulS.or op_rep)
theorem od_mul : OpD K fMul rMulD := by
  intro B G H x y v u t Q sb h1 h2 e k
  unfold fMul at e
  split at e
  · split at e
    · cases e
      rename_i hz
      exact .inl ⟨_, _, h1, h2, hz, same_end sb k rfl⟩
    · cases e
  · rename_i x n
    split at e
    · cases e
      rename_i hz
      refine .inr (.inl ⟨_, _, h1, h2, ⟨?_, fun h3 h4 => ?_, fun h3 h4 => ?_⟩, same_end sb k rfl⟩)
      · rw [decide_eq_false (by omega), decide_eq_false (by omega)] <;> rfl
      · have h5 : (x.length : Int) * n ≤ 16777216 := by
          have h6 := hz.2.2
          unfold szL at h6
          have h7 : ((x.length * n.toNat : Nat) : Int) = (x.length : Int) * n := by rw [Int.natCast_mul, Int.toNat_of_nonneg hz.1]
          omega
        have h8 : (x.length : Int) ≤ (2 ^ 63 - 1) / n := Int.le_ediv_of_mul_le (by omega) (by omega)
        omega
      · have := hz.2.2
        unfold szL at this
        exact decide_eq_false (by rw [sizeLine_eq]; omega)
    · cases e
  · rename_i xs n
    split at e
    · cases e
      rename_i hz
      obtain ⟨a, vs, e1, q1, r1⟩ := h1
      refine .inr (.inr ⟨a, n, vs, e1, h2, sb _ _ q1, by omega, by omega, by rw [r1.length, szL_eq]; exact hz.2.2, fun p hp => ?_⟩)
      exact new_lst sb hp (repDs_rep r1 n.toNat) k
    · cases e
  · cases e
theorem od_mod : OpD K fMod (rI (fun _ j => 0 < j) fun i j => .int (i % j)) := by
  intro B G H x y v u t Q sb h1 h2 e k
  unfold fMod at e
  split at e
  · split at e
    · cases e
      rename_i hz
      exact ⟨_, _, h1, h2, hz, same_end sb k rfl⟩
    · cases e
  · cases e
theorem od_div : OpD K fDiv (rI CDivW fun i j => .int (i / j)) := by
  intro B G H x y v u t Q sb h1 h2 e k
  unfold fDiv at e
  split at e
  · split at e
    · cases e
      rename_i hz
      exact ⟨_, _, h1, h2, hz, same_end sb k rfl⟩
    · cases e
  · cases e
theorem od_pow : OpD K fPow (rI CPow fun i j => .int (i ^ j.toNat)) := by
  intro B G H x y v u t Q sb h1 h2 e k
  unfold fPow at e
  split at e
  · split at e
    · cases e
      rename_i hz
      exact ⟨_, _, h1, h2, hz, same_end sb k rfl⟩
    · cases e
  · cases e
def rLtD : R2 := fun x y H Q => (rI0 fun i j => .bl (decide (i < j))) x y H Q ∨ ∃ i j, x = .str i ∧ y = .str j ∧ Q (.bl (decide (i.cps.toList < j.cps.toList))) H
def rLeD : R2 := fun x y H Q => (rI0 fun i j => .bl (decide (i ≤ j))) x y H Q ∨ ∃ i j, x = .str i ∧ y = .str j ∧ Q (.bl (!decide (j.cps.toList < i.cps.toList))) H
def rGtD : R2 := fun x y H Q => (rI0 fun i j => .bl (decide (j < i))) x y H Q ∨ ∃ i j, x = .str i ∧ y = .str j ∧ Q (.bl (decide (j.cps.toList < i.cps.toList))) H
def rGeD : R2 := fun x y H Q => (rI0 fun i j => .bl (decide (j ≤ i))) x y H Q ∨ ∃ i j, x = .str i ∧ y = .str j ∧ Q (.bl (!decide (i.cps.toList < j.cps.toList))) H
theorem op_ltD : OpR X (compareOp .Lt) rLtD := op_lt.or op_lt_str
theorem op_leD : OpR X (compareOp .LtE) rLeD := op_le.or op_le_str
theorem op_gtD : OpR X (compareOp .Gt) rGtD := op_gt.or op_gt_str
theorem op_geD : OpR X (compareOp .GtE) rGeD := op_ge.or op_ge_str
theorem od_lt : OpD K fLt rLtD := by
  intro B G H x y v u t Q sb h1 h2 e k
  unfold fLt at e
  split at e
  · cases e; exact .inl ⟨_, _, h1, h2, same_end sb k rfl⟩
  · cases e; exact .inr ⟨_, _, h1, h2, same_end sb k rfl⟩
  · cases e
theorem od_le : OpD K fLe rLeD := by
  intro B G H x y v u t Q sb h1 h2 e k
  unfold fLe at e
  split at e
  · cases e; exact .inl ⟨_, _, h1, h2, same_end sb k rfl⟩
  · cases e; exact .inr ⟨_, _, h1, h2, same_end sb k rfl⟩
  · cases e
theorem od_gt : OpD K fGt rGtD := by
  intro B G H x y v u t Q sb h1 h2 e k
  unfold fGt at e
  split at e
  · cases e; exact .inl ⟨_, _, h1, h2, same_end sb k rfl⟩
  · cases e; exact .inr ⟨_, _, h1, h2, same_end sb k rfl⟩
  · cases e
theorem od_ge : OpD K fGe rGeD := by
  intro B G H x y v u t Q sb h1 h2 e k
  unfold fGe at e
  split at e
  · cases e; exact .inl ⟨_, _, h1, h2, same_end sb k rfl⟩
  · cases e; exact .inr ⟨_, _, h1, h2, same_end sb k rfl⟩
  · cases e
theorem od_is : OpD K fIs (fun x y H Q => y = .non ∧ Q (.bl (decide (x = .non))) H) := by
  intro B G H x y v u t Q sb h1 h2 e k
  unfold fIs at e
  split at e
  · cases e
    exact ⟨h2, by rw [isN_rep h1]; exact same_end sb k rfl⟩
  · cases e
theorem od_isnot : OpD K fIsNot (fun x y H Q => y = .non ∧ Q (.bl (!decide (x = .non))) H) := by
  intro B G H x y v u t Q sb h1 h2 e k
  unfold fIsNot at e
  split at e
  · cases e
    exact ⟨h2, by rw [isN_rep h1]; exact same_end sb k rfl⟩
  · cases e
def rInD (K : PySem.W.Frag) : R2 := fun x y H Q => rIn K false x y H Q ∨ ∃ (c : Nat) (z : Str), x = .str ⟨#[c]⟩ ∧ y = .str z ∧ Q (.bl (decide (c ∈ z.cps.toList))) H
def rNotInD (K : PySem.W.Frag) : R2 := fun x y H Q => rIn K true x y H Q ∨ ∃ (c : Nat) (z : Str), x = .str ⟨#[c]⟩ ∧ y = .str z ∧ Q (.bl (!decide (c ∈ z.cps.toList))) H
theorem op_inD : OpR X (compareOp .In) (rInD X.K) := op_in_seq.or op_in_sign
theorem op_notInD : OpR X (compareOp .NotIn) (rNotInD X.K) := op_notIn_seq.or op_notIn_sign
theorem str_one {x : Str} {c : Nat} (h : x.cps.toList = [c]) : x = ⟨#[c]⟩ := by
  obtain ⟨a⟩ := x
  congr
  exact Array.toList_inj.mp h
theorem inD_sem {G H : Hp} {x y : D} {v u : V} {k : Bool} (sb : Same G H) (h1 : RepD K G x v) (h2 : RepD K G y u) (e : inD x y = some k) :
    (∃ p xs, u = .ref p ∧ (SqL K H p xs ∨ SqT K H p xs) ∧ flatV v = true ∧ xs.all flatV = true ∧ inV v xs = k) ∨ ∃ (c : Nat) (z : Str), v = .str ⟨#[c]⟩ ∧ u = .str z ∧ decide (c ∈ z.cps.toList) = k := by
  unfold inD at e
  split at e
  · split at e
    · rename_i f1 f2
      cases e
      obtain ⟨b, ws, e2, q2, r2⟩ := h2
      obtain ⟨g1, g2⟩ := flat_rep f1 h1
      obtain ⟨g3, g4⟩ := flats_rep f2 r2
      subst g1 g3
      exact .inl ⟨b, _, e2, .inl (SqL.of (sb _ _ q2)), g2, g4, rfl⟩
    · cases e
  · split at e
    · rename_i f1 f2
      cases e
      obtain ⟨b, ws, e2, q2, r2⟩ := h2
      obtain ⟨g1, g2⟩ := flat_rep f1 h1
      obtain ⟨g3, g4⟩ := flats_rep f2 r2
      subst g1 g3
      exact .inl ⟨b, _, e2, .inr (sqT_mono sb q2), g2, g4, rfl⟩
    · cases e
  · split at e
    · rename_i c hc
      cases e
      exact .inr ⟨c, _, by rw [show v = _ from h1, str_one hc], h2, rfl⟩
    · cases e
  · cases e
theorem od_in : OpD K fIn (rInD K) := by
  intro B G H x y v u t Q sb h1 h2 e k
  unfold fIn at e
  cases q : inD x y with
  | none => rw [q] at e; cases e
  | some b =>
    rw [q] at e
    cases e
    rcases inD_sem sb h1 h2 q with ⟨p, xs, e2, r, f1, f2, z⟩ | ⟨c, w, e1, e2, z⟩
    · exact .inl ⟨p, xs, e2, r, f1, f2, by rw [if_neg (by decide), z]; exact same_end sb k rfl⟩
    · exact .inr ⟨c, w, e1, e2, by rw [z]; exact same_end sb k rfl⟩
theorem od_notIn : OpD K fNotIn (rNotInD K) := by
  intro B G H x y v u t Q sb h1 h2 e k
  unfold fNotIn at e
  cases q : inD x y with
  | none => rw [q] at e; cases e
  | some b =>
    rw [q] at e
    cases e
    rcases inD_sem sb h1 h2 q with ⟨p, xs, e2, r, f1, f2, z⟩ | ⟨c, w, e1, e2, z⟩
    · exact .inl ⟨p, xs, e2, r, f1, f2, by rw [if_pos rfl, z]; exact same_end sb k rfl⟩
    · exact .inr ⟨c, w, e1, e2, by rw [z]; exact same_end sb k rfl⟩
end
end L2.DL

namespace L2.DL
open PySem PySem.Spec PyProof.Rows

/-! ### several values, one behind the other -/
def aNil : AM := fun δ => .ok [] δ
def aCons (m : EM) (r : AM) : AM := fun δ => (m δ).bind fun t δ1 => (r δ1).bind fun ts δ2 => .ok (t :: ts) δ2
section
variable {K : PySem.W.Frag} {B : BH} {G G1 G2 H H1 H2 : Hp} {W W1 W2 Wt Ws : List Addr} {δ δ' : Env} {σ : St} {Wx : WX}
theorem disj_of {A B : List Addr} (h : (A ++ B).Nodup) : ∀ c ∈ A, c ∉ B := fun c m m' => (List.nodup_append.mp h).2.2 c m c m' rfl
/-- something held stands aside of the next step -/
theorem held (n : Nx G H W G1 H1 (Wt ++ W1)) (nd : (Wt ++ W1).Nodup) (inH : ∀ c ∈ Wt, ∃ o, H1 c = some o) (off : ∀ a ∈ Wt, G1 a = none) (n2 : Nx G1 H1 W1 G2 H2 (Ws ++ W2)) (nd2 : (Ws ++ W2).Nodup) :
    Nx G H W G2 H2 ((Wt ++ Ws) ++ W2) ∧ ((Wt ++ Ws) ++ W2).Nodup ∧ Keep Wt H1 H2 ∧ (∀ a ∈ Wt, G2 a = none) := by
  obtain ⟨k, o, dj⟩ := n2.aside inH (disj_of nd)
  refine ⟨n.trans ((n2.beside (W2 := Wt)).perm List.perm_append_comm ?_), ?_, k, fun a m => o a m (off a m)⟩
  · rw [List.append_assoc]
    exact List.perm_append_comm
  · rw [List.append_assoc]
    exact nodup_app (List.nodup_append.mp nd).1 nd2 dj
theorem nx_tail (n : Nx G H W G1 H1 (Wt ++ W1)) : Nx G H W G1 H1 W1 := n.weak fun _ m => List.mem_append_right _ m
theorem frzs {ts : List T} {vs : List V} {Wt : List Addr} (f : T.full.go ts = true) (s : StOk K B G H W δ σ) (off : ∀ a ∈ Wt, G a = none) (nd : (Wt ++ W).Nodup) (r : RepTs K B G H ts vs Wt) :
    ∃ G', Nx G H (Wt ++ W) G' H W ∧ StOk K B G' H W δ σ ∧ RepDs K G' (T.frz.go ts) vs := by
  have hs : ∀ a o, G a = some o → (if a ∈ Wt then H a else G a) = some o := fun a o e => by
    by_cases m : a ∈ Wt
    · rw [off a m] at e; cases e
    · rw [if_neg m]; exact e
  refine ⟨fun a => if a ∈ Wt then H a else G a, ⟨hs, fun _ _ e _ => e, fun a m => .inl (List.mem_append_right _ m), fun a o e => ?_⟩, ⟨fun a o e => ?_, fun a m => ?_, s.nd, s.rep.mono hs fun a m o e => e, s.bor, s.bof⟩, ?_⟩
  · by_cases m : a ∈ Wt
    · exact .inr (.inl (List.mem_append_left _ m))
    · have e' : (if a ∈ Wt then H a else G a) = some o := e
      rw [if_neg m] at e'
      exact .inl e'
  · have e' : (if a ∈ Wt then H a else G a) = some o := e
    by_cases m : a ∈ Wt
    · rw [if_pos m] at e'; exact e'
    · rw [if_neg m] at e'; exact s.sub a o e'
  · show (if a ∈ Wt then H a else G a) = none
    rw [if_neg (fun z => disj_of nd a z m)]
    exact s.off a m
  · refine repTs_frz s.sub ts vs Wt f r (fun a m o e => ?_) hs
    show (if a ∈ Wt then H a else G a) = some o
    rw [if_pos m]; exact e
end
/-- the values, frozen -/
def R.vals {β : Type} (r : R (List T)) (f : List D → Env → R β) : R β := match r with
  | .ok ts δ => if T.full.go ts then f (T.frz.go ts) δ else .no
  | .exn c x δ => .exn c x δ
  | .no => .no
section
variable {X : Cx} {B : BH} {Wx : WX} {e : Expr} {es : List Expr} {m : EM} {ms : AM} {pos : Pos}
theorem da_nil : DA X B Wx [] aNil := paImp pa_nil fun σ H Q ⟨G, W, δ, s, p⟩ => p G H [] W [] Nx.refl s (fun _ m => nomatch m) (by simpa using s.nd) ⟨rfl, rfl⟩
theorem da_cons (h : DN X B Wx e m) (g : DA X B Wx es ms) (hs : starEach (e :: es) X.env = (false, eval e X.env) :: starEach es X.env := by rfl) : DA X B Wx (e :: es) (aCons m ms) := paImp (pa_cons h g hs) fun σ H Q ⟨G, W, δ, s, p⟩ => by
  refine ⟨G, W, δ, s, ?_⟩
  unfold aCons at p
  cases e1 : m δ with
  | no => rw [e1] at p; exact p
  | exn c x δ' => rw [e1] at p; exact p
  | ok t δ1 =>
    rw [e1] at p
    have p : PoA X.K B G H W σ Wx Q ((ms δ1).bind fun ts δ2 => .ok (t :: ts) δ2) := p
    intro G1 H1 Wt W1 v n s1 off nd rt
    refine ⟨G1, W1, δ1, s1, ?_⟩
    cases e2 : ms δ1 with
    | no => rw [e2] at p; exact p
    | exn c x δ' =>
      rw [e2] at p
      exact PoE.next p (nx_tail n)
    | ok ts δ2 =>
      rw [e2] at p
      intro G2 H2 Ws W2 vs n2 s2 off2 nd2 rts
      obtain ⟨a1, a2, a3, a4⟩ := held n nd (repT_in t v Wt rt) off n2 nd2
      refine p G2 H2 (Wt ++ Ws) W2 (v :: vs) a1 s2 (fun a m => ?_) a2 ⟨v, vs, Wt, Ws, rfl, rt.mono n2.sub a3, rts, List.Perm.refl _⟩
      rcases List.mem_append.mp m with z | z
      · exact a4 a z
      · exact off2 a z
theorem vals_N {K : PySem.W.Frag} {B : BH} {G H : Hp} {W : List Addr} {σ : St} {r : R (List T)} {f : List D → Env → R T} {Q : List V → Hp → Prop} {Q' : VK} (p : PoN K B G H W σ Wx Q' (r.vals f))
    (use : ∀ G' H' W' xs vs δ', Nx G H W G' H' W' → StOk K B G' H' W' δ' σ → RepDs K G' xs vs → PoN K B G' H' W' σ Wx Q' (f xs δ') → Q vs H') : PoA K B G H W σ Wx Q r := by
  cases r with
  | no => exact p
  | exn c x δ' => exact p
  | ok ts δ' =>
    intro G' H' Wt W' vs n s off nd rt
    cases ff : T.full.go ts with
    | false => exact (by simpa [R.vals, ff] using p : PoN K B G H W σ Wx Q' .no).elim
    | true =>
      obtain ⟨G2, n2, s2, rd⟩ := frzs ff s off nd rt
      exact use G2 H' W' _ vs δ' (n.trans n2) s2 rd (PoN.next (n.trans n2) (by simpa [R.vals, ff] using p))
/-- (a, b, ..) -/
def nTup (ms : AM) : EM := fun δ => (ms δ).vals fun xs δ1 => if xs.length ≤ 1000 then .ok (.d (.tup xs)) δ1 else .no
theorem dn_tup {k} (h : DA X B Wx es ms) : DN X B Wx (.Tuple es k pos) (nTup ms) := peImp (pe_tup h) fun σ H Q ⟨G, W, δ, s, p⟩ =>
  ⟨G, W, δ, s, vals_N p fun G1 H1 W1 xs vs δ1 n1 s1 r1 p1 => by
    by_cases hl : xs.length ≤ 1000
    · rw [if_pos hl] at p1
      refine ⟨by rw [r1.length, sizeLine_eq]; omega, fun q hq => ?_⟩
      exact new_tup s1.sub hq r1 fun G' H' Wt w n sb off nd rt => ret_t s1 p1 n sb off nd rt
    · rw [if_neg hl] at p1
      exact p1.elim⟩
/-- [a, b, ..] -/
def nLst (ms : AM) : EM := fun δ => (ms δ).bind fun ts δ1 => if ts.length ≤ 1000 then .ok (.lst ts) δ1 else .no
theorem dn_lst (h : DA X B Wx es ms) : DN X B Wx (.List es pos) (nLst ms) := peImp (pe_lst h) fun σ H Q ⟨G, W, δ, s, p⟩ => by
  refine ⟨G, W, δ, s, ?_⟩
  unfold nLst at p
  cases e1 : ms δ with
  | no => rw [e1] at p; exact p
  | exn c x δ' => rw [e1] at p; exact p
  | ok ts δ1 =>
    rw [e1] at p
    have p : PoN X.K B G H W σ Wx Q (if ts.length ≤ 1000 then .ok (.lst ts) δ1 else .no) := p
    intro G1 H1 Wt W1 vs n s1 off nd rt
    by_cases hl : ts.length ≤ 1000
    · rw [if_pos hl] at p
      refine ⟨by rw [rt.length, sizeLine_eq]; omega, fun q hq => ?_⟩
      obtain ⟨n2, sb, gq, sh⟩ := new_own (o := .lst vs) s1.sub hq
      have inH : ∀ c ∈ Wt ++ W1, ∃ o, H1 c = some o := fun c m => (List.mem_append.mp m).elim (repTs_in ts vs Wt rt c) (s1.in_ c)
      obtain ⟨k, o, dj⟩ := n2.aside inH (fun _ _ m => nomatch m)
      refine p G1 _ (q :: Wt) W1 (.ref q) (n.trans ?_) ⟨sb, s1.off, s1.nd, s1.rep.mono (Same.refl _) (k.sub fun a m => List.mem_append_right _ m), bor_next s1.bor n2 (fun _ m => nomatch m), s1.bof⟩ (fun a m => ?_) ?_ ⟨q, vs, Wt, rfl, upd_same, rt.mono (Same.refl _) (k.sub fun a m => List.mem_append_left _ m), List.Perm.refl _⟩
      · exact (n2.beside (W2 := Wt ++ W1)).perm (List.Perm.refl _) (List.Perm.refl _)
      · rcases List.mem_cons.mp m with z | z
        · rw [z]; exact gq
        · exact off a z
      · exact List.nodup_cons.mpr ⟨fun m => dj q m (List.mem_singleton.mpr rfl), nd⟩
    · rw [if_neg hl] at p
      exact p.elim
end

/-! ### built-ins by values -/
def CallD (K : PySem.W.Frag) (f : List D → Option T) (r : List V → Hp → VK → Prop) : Prop := ∀ (B : BH) (G H : Hp) (xs : List D) (vs : List V) (t : T) (Q : VK), Same G H → RepDs K G xs vs → f xs = some t →
  (∀ G' H' Wt w, Nx G H [] G' H' Wt → Same G' H' → (∀ a ∈ Wt, G' a = none) → Wt.Nodup → RepT K B G' H' t w Wt → Q w H') → r vs H Q
/-- .. of data that only stands at the moment; the answer is flat -/
def CallL (K : PySem.W.Frag) (f : List D → Option D) (r : List V → Hp → VK → Prop) : Prop := ∀ (H : Hp) (xs : List D) (vs : List V) (z : D) (Q : VK), RepDs K H xs vs → f xs = some z → (∀ w, (∀ G', RepD K G' z w) → Q w H) → r vs H Q
def nCall (f : List D → Option T) (ms : AM) : EM := fun δ => (ms δ).vals fun xs δ1 => R.of (f xs) δ1
section
variable {X : Cx} {B : BH} {Wx : WX} {e : Expr} {es : List Expr} {m : EM} {ms : AM} {p pos : Pos} {x : Str} {id Ty : String} {r : List V → Hp → VK → Prop} {f : List D → Option T}
theorem call_sem (hf : CallD X.K f r) {σ : St} {H : Hp} {Q : VK} (h : tN X.K B Wx (nCall f ms) σ H Q) : tCB r (tA X.K B Wx ms) σ H Q := by
  obtain ⟨G, W, δ, s, p⟩ := h
  refine ⟨G, W, δ, s, vals_N p fun G1 H1 W1 xs vs δ1 n1 s1 r1 p1 => ?_⟩
  cases e : f xs with
  | none => rw [e] at p1; exact p1.elim
  | some t =>
    rw [e] at p1
    exact hf B G1 H1 xs vs t Q s1.sub r1 e fun G' H' Wt w n sb off nd rt => ret_t s1 p1 n sb off nd rt
theorem dn_callB (hc : CallR X (.builtin id) r) (hf : CallD X.K f r) (hg : Gl X x) (hm : X.mg x = none) (hv : bootBuiltins x = some (.builtin id)) (ha : DA X B Wx (e :: es) ms) (hn : x ≠ "__name__" := by decide) (hdb : (x == ("__debug__" : Str)) = false := by decide)
    (he : starEach (e :: es) X.env = (false, eval e X.env) :: starEach es X.env := by rfl) (hpl : (backTo pos (starEach es X.env)).any (·.1) = false := by rfl) : DN X B Wx (.Call (.Name x p) (e :: es) [] pos) (nCall f ms) :=
  peImp (pe_callB hc hg hm hv ha hn hdb he hpl) fun _ _ _ => call_sem hf
theorem dn_callTy (hc : CallR X (.type Ty) r) (hf : CallD X.K f r) (hg : Gl X x) (hm : X.mg x = none) (hv : bootBuiltins x = some (.type Ty)) (ha : DA X B Wx (e :: es) ms) (hn : x ≠ "__name__" := by decide) (hdb : (x == ("__debug__" : Str)) = false := by decide)
    (he : starEach (e :: es) X.env = (false, eval e X.env) :: starEach es X.env := by rfl) (hpl : (backTo pos (starEach es X.env)).any (·.1) = false := by rfl) : DN X B Wx (.Call (.Name x p) (e :: es) [] pos) (nCall f ms) :=
  peImp (pe_callTy hc hg hm hv ha hn hdb he hpl) fun _ _ _ => call_sem hf
/-! ### looks -/
def T.see : T → Option D
  | .bor x => some x
  | t => if t.full then some t.frz else none
theorem look_see {K : PySem.W.Frag} {B : BH} {G H : Hp} {t : T} {v : V} {W : List Addr} {x : D} (s : Same G H) (b : Same B H) (f : t.see = some x) (r : RepT K B G H t v W) : RepD K H x v := by
  have gen : t.full = true → t.frz = x → RepD K H x v := fun f e => by
    rw [← e]
    exact repT_frz s t v W f r (fun _ _ _ e => e) s
  cases t with
  | bor y =>
    cases f
    exact r.2.mono b
  | hole => simp [T.see, T.full] at f
  | exc => simp [T.see, T.full] at f
  | d y => exact gen rfl (by simpa [T.see, T.full] using f)
  | lst ts =>
    cases ff : (T.lst ts).full with
    | false => simp [T.see, ff] at f
    | true => exact gen ff (by simpa [T.see, ff] using f)
  | dic ks ts =>
    cases ff : (T.dic ks ts).full with
    | false => simp [T.see, ff] at f
    | true => exact gen ff (by simpa [T.see, ff] using f)
  | ins c ns ts =>
    cases ff : (T.ins c ns ts).full with
    | false => simp [T.see, ff] at f
    | true => exact gen ff (by simpa [T.see, ff] using f)
def vCall1 (f : List D → Option D) (m : VM) : VM := fun δ => match m δ with
  | some t => match t.see with
    | some x => (f [x]).map T.d
    | none => none
  | none => none
variable {v1 v2 : VM} {fl : List D → Option D} {a b : Expr}
theorem callL_sem (hf : CallL X.K fl r) {σ : St} {H : Hp} {Q : VK} (h : tL X.K B (vCall1 fl v1) σ H Q) : tCB r (L2.tCons (tL X.K B v1) tNil) σ H Q := by
  obtain ⟨G, W, δ, t, s, e, q⟩ := h
  unfold vCall1 at e
  cases e1 : v1 δ with
  | none => rw [e1] at e; cases e
  | some t1 =>
    rw [e1] at e
    cases ff : t1.see with
    | none => simp [ff] at e
    | some x1 =>
      cases e2 : fl [x1] with
      | none => simp [ff, e2] at e
      | some z =>
        simp [ff, e2] at e
        subst e
        refine ⟨G, W, δ, t1, s, e1, fun v W1 r1 sub => ?_⟩
        exact hf H [x1] [v] z Q ⟨v, [], rfl, look_see s.sub s.bor ff r1, rfl⟩ e2 fun w rw => q w [] ⟨rfl, rw G⟩ fun _ m => nomatch m
theorem dl_callB1 (hc : CallR X (.builtin id) r) (hf : CallL X.K fl r) (hg : Gl X x) (hm : X.mg x = none) (hv : bootBuiltins x = some (.builtin id)) (ha : DL X B e v1) (hn : x ≠ "__name__" := by decide) (hdb : (x == ("__debug__" : Str)) = false := by decide)
    (he : starEach [e] X.env = [(false, eval e X.env)] := by rfl) : DL X B (.Call (.Name x p) [e] [] pos) (vCall1 fl v1) :=
  peImp (pe_callB hc hg hm hv (pa_cons ha pa_nil he) hn hdb he rfl) fun _ _ _ => callL_sem hf
theorem dl_callTy1 (hc : CallR X (.type Ty) r) (hf : CallL X.K fl r) (hg : Gl X x) (hm : X.mg x = none) (hv : bootBuiltins x = some (.type Ty)) (ha : DL X B e v1) (hn : x ≠ "__name__" := by decide) (hdb : (x == ("__debug__" : Str)) = false := by decide)
    (he : starEach [e] X.env = [(false, eval e X.env)] := by rfl) : DL X B (.Call (.Name x p) [e] [] pos) (vCall1 fl v1) :=
  peImp (pe_callTy hc hg hm hv (pa_cons ha pa_nil he) hn hdb he rfl) fun _ _ _ => callL_sem hf
def vC (x : D) : VM := fun _ => some (.d x)
theorem dl_const {x : D} {v : V} (h : PE X e (tC v)) (r : ∀ G, RepD X.K G x v) : DL X B e (vC x) := peImp h fun σ H Q ⟨G, W, δ, t, s, e, q⟩ => by
  cases e
  exact q v [] ⟨rfl, r G⟩ fun _ m => nomatch m
theorem dl_int {i j pos} : DL X B (.Constant (.int i) j pos) (vC (.int i)) := dl_const pe_int fun _ => rfl
/-- a borrowed item -/
def bord (x : D) : T := match flat? x with
  | some _ => .d x
  | none => .bor x
theorem bord_rep {K : PySem.W.Frag} {B : BH} {G H : Hp} {x : D} {v : V} (r : RepD K B x v) : RepT K B G H (bord x) v [] := by
  unfold bord
  cases e : flat? x with
  | none => exact ⟨rfl, r⟩
  | some w =>
    refine ⟨rfl, ?_⟩
    cases x <;> simp only [flat?] at e <;> first | exact r | cases e
/-- two looks: an item -/
def itemT (t : T) (i : Int) : Option T := match t with
  | .lst ts => atI ts i
  | .d (.lst xs) => (atI xs i).map T.d
  | .d (.tup xs) => (atI xs i).map T.d
  | .d (.scr xs) => (atI xs i).map T.d
  | .bor (.lst xs) => (atI xs i).map bord
  | .bor (.tup xs) => (atI xs i).map bord
  | .d (.str z) => if z.length ≤ szL then (atI z.cps.toList i).map fun c => .d (.str ⟨#[c]⟩) else none
  | _ => none
def vIx (m n : VM) : VM := fun δ => match m δ, n δ with
  | some t, some (.d (.int i)) => itemT t i
  | _, _ => none
theorem repDs_at {K : PySem.W.Frag} {G : Hp} : ∀ {xs : List D} {vs : List V} {j : Nat} {y : D}, RepDs K G xs vs → xs[j]? = some y → ∃ v, vs[j]? = some v ∧ RepD K G y v
  | [], _, _, _, _, e => by cases e
  | _ :: _, _, 0, _, ⟨v, r, e1, a, b⟩, e => by cases e; exact ⟨v, by rw [e1]; rfl, a⟩
  | _ :: _, _, j + 1, _, ⟨v, r, e1, a, b⟩, e => by
    obtain ⟨w, h1, h2⟩ := repDs_at (j := j) b (by simpa using e)
    exact ⟨w, by rw [e1]; simpa using h1, h2⟩
theorem repTs_at {K : PySem.W.Frag} {B : BH} {G H : Hp} : ∀ {ts : List T} {vs : List V} {W : List Addr} {j : Nat} {y : T}, RepTs K B G H ts vs W → ts[j]? = some y → ∃ v W1, vs[j]? = some v ∧ RepT K B G H y v W1 ∧ ∀ a ∈ W1, a ∈ W
  | [], _, _, _, _, _, e => by cases e
  | _ :: _, _, _, 0, _, ⟨v, r, W1, W2, e1, a, b, q⟩, e => by
    cases e
    exact ⟨v, W1, by rw [e1]; rfl, a, fun c m => q.symm.subset (List.mem_append_left _ m)⟩
  | _ :: _, _, _, j + 1, _, ⟨v, r, W1, W2, e1, a, b, q⟩, e => by
    obtain ⟨w, W3, h1, h2, h3⟩ := repTs_at (j := j) b (by simpa using e)
    exact ⟨w, W3, by rw [e1]; simpa using h1, h2, fun c m => q.symm.subset (List.mem_append_right _ (h3 c m))⟩
theorem atI_rel {α β : Type} {xs : List α} {vs : List β} {i : Int} {y : α} (hl : vs.length = xs.length) (e : atI xs i = some y) : ∃ j : Nat, xs[j]? = some y ∧ ∀ v, vs[j]? = some v → atI vs i = some v := by
  unfold atI at e
  cases q : ixN xs.length i with
  | none => rw [q] at e; cases e
  | some j =>
    rw [q] at e
    refine ⟨j, e, fun v hv => ?_⟩
    unfold atI
    rw [hl, q]
    exact hv
theorem item_sem {K : PySem.W.Frag} {B : BH} {G H : Hp} {t y : T} {v : V} {W1 : List Addr} {i : Int} {Q : VK} (sb : Same G H) (bb : Same B H) (r : RepT K B G H t v W1) (e : itemT t i = some y) (q : ∀ w W2, RepT K B G H y w W2 → (∀ a ∈ W2, a ∈ W1) → Q w H) : rIx K v (.int i) H Q := by
  unfold itemT at e
  split at e
  · obtain ⟨a, vs, W3, e1, h1, r1, p1⟩ := r
    obtain ⟨j, g1, g2⟩ := atI_rel r1.length e
    obtain ⟨w, W4, k1, k2, k3⟩ := repTs_at r1 g1
    exact .inl ⟨a, vs, i, w, e1, rfl, SqL.of h1, g2 w k1, q w W4 k2 fun c m => p1.symm.subset (List.mem_cons_of_mem _ (k3 c m))⟩
  · obtain ⟨_, a, vs, e1, h1, r1⟩ := r
    cases e2 : atI _ i with
    | none => rw [e2] at e; cases e
    | some z =>
      rw [e2] at e
      cases e
      obtain ⟨j, g1, g2⟩ := atI_rel r1.length e2
      obtain ⟨w, k1, k2⟩ := repDs_at r1 g1
      exact .inl ⟨a, vs, i, w, e1, rfl, SqL.of (sb _ _ h1), g2 w k1, q w [] ⟨rfl, k2⟩ fun _ m => nomatch m⟩
  · obtain ⟨_, a, vs, e1, h1, r1⟩ := r
    cases e2 : atI _ i with
    | none => rw [e2] at e; cases e
    | some z =>
      rw [e2] at e
      cases e
      obtain ⟨j, g1, g2⟩ := atI_rel r1.length e2
      obtain ⟨w, k1, k2⟩ := repDs_at r1 g1
      exact .inr (.inl ⟨a, vs, i, w, e1, rfl, sqT_mono sb h1, g2 w k1, q w [] ⟨rfl, k2⟩ fun _ m => nomatch m⟩)
  · obtain ⟨_, a, vs, e1, h1, r1⟩ := r
    cases e2 : atI _ i with
    | none => rw [e2] at e; cases e
    | some z =>
      rw [e2] at e
      cases e
      obtain ⟨j, g1, g2⟩ := atI_rel r1.length e2
      obtain ⟨w, k1, k2⟩ := repDs_at r1 g1
      exact .inl ⟨a, vs, i, w, e1, rfl, sb.seq h1, g2 w k1, q w [] ⟨rfl, k2⟩ fun _ m => nomatch m⟩
  · obtain ⟨_, a, vs, e1, h1, r1⟩ := r
    cases e2 : atI _ i with
    | none => rw [e2] at e; cases e
    | some z =>
      rw [e2] at e
      cases e
      obtain ⟨j, g1, g2⟩ := atI_rel r1.length e2
      obtain ⟨w, k1, k2⟩ := repDs_at r1 g1
      exact .inl ⟨a, vs, i, w, e1, rfl, SqL.of (bb _ _ h1), g2 w k1, q w [] (bord_rep k2) fun _ m => nomatch m⟩
  · obtain ⟨_, a, vs, e1, h1, r1⟩ := r
    cases e2 : atI _ i with
    | none => rw [e2] at e; cases e
    | some z =>
      rw [e2] at e
      cases e
      obtain ⟨j, g1, g2⟩ := atI_rel r1.length e2
      obtain ⟨w, k1, k2⟩ := repDs_at r1 g1
      exact .inr (.inl ⟨a, vs, i, w, e1, rfl, sqT_mono bb h1, g2 w k1, q w [] (bord_rep k2) fun _ m => nomatch m⟩)
  · split at e
    · rename_i z hz
      obtain ⟨_, r⟩ := r
      cases e2 : atI z.cps.toList i with
      | none => rw [e2] at e; cases e
      | some c =>
        rw [e2] at e
        cases e
        exact .inr (.inr ⟨z, i, c, r, rfl, by rw [szL_eq]; exact hz, e2, q _ [] ⟨rfl, rfl⟩ fun _ m => nomatch m⟩)
    · cases e
  · cases e
theorem dl_ix (ha : DL X B a v1) (hb : DL X B b v2) (hs : PlainIx b) : DL X B (.Subscript a b pos) (vIx v1 v2) := peImp (pe_ix ix_seq ha hb hs) fun σ H Q ⟨G, W, δ, t, s, e, q⟩ => by
  unfold vIx at e
  cases e1 : v1 δ with
  | none => rw [e1] at e; cases e
  | some t1 =>
    cases e2 : v2 δ with
    | none => rw [e1, e2] at e; cases e
    | some t2 =>
      rw [e1, e2] at e
      refine ⟨G, W, δ, t1, s, e1, fun v W1 r1 sub => ⟨G, W, δ, t2, s, e2, fun u W2 r2 _ => ?_⟩⟩
      cases t2 with
      | d y =>
        cases y with
        | int i =>
          obtain ⟨_, r2⟩ := r2
          rw [show u = _ from r2]
          exact item_sem s.sub s.bor r1 e fun w W3 r3 sb3 => q w W3 r3 fun a m => sub a (sb3 a m)
        | _ => cases e
      | _ => cases e
/-- an item of frozen data, at an index that is reckoned -/
def nIx (m n : EM) : EM := fun δ => (m δ).val fun x δ1 => (n δ1).val fun y δ2 => match y with
  | .int i => match itemT (.d x) i with
    | some (.d z) => .ok (.d z) δ2
    | _ => .no
  | _ => .no
theorem dn_ix {ma mb : EM} (ha : DN X B Wx a ma) (hb : DN X B Wx b mb) (hs : PlainIx b) : DN X B Wx (.Subscript a b pos) (nIx ma mb) := peImp (pe_ix ix_seq ha hb hs) fun σ H Q ⟨G, W, δ, s, p⟩ =>
  ⟨G, W, δ, s, val_N p fun G1 H1 W1 x v δ1 n1 s1 r1 p1 => ⟨G1, W1, δ1, s1, val_N p1 fun G2 H2 W2 y u δ2 n2 s2 r2 p2 => by
    cases y with
    | int i =>
      rw [show u = _ from r2]
      cases e : itemT (.d x) i with
      | none => simp only [e] at p2; exact p2.elim
      | some z =>
        cases z with
        | d z =>
          simp only [e] at p2
          exact item_sem (W1 := []) (G := G2) (t := .d x) s2.sub s2.bor ⟨rfl, r1.mono n2.sub⟩ e fun w W3 r3 _ => ret_d s2 p2 r3.2
        | _ => simp only [e] at p2; exact p2.elim
    | _ => exact p2.elim⟩⟩
/-- an item at an index that is reckoned, of a name that may be owned (the index changes nothing) -/
theorem plain_ix_const {c k q} : PlainIx (.Constant c k q) := fun _ _ => rfl
end
end L2.DL

namespace L2.DL
open PySem PySem.Spec PyProof.Rows

/-! ### slots -/
def setS (i : Nat) (t : T) (δ : Env) : Option Env := if i < δ.length then some (δ.set i t) else none
section
variable {K : PySem.W.Frag} {B : BH} {G G' H H' : Hp} {W W' Wt : List Addr} {δ δ' : Env} {σ : St} {Wx : WX} {Pn : List Nat}
/-- a slot let go -/
theorem StOk.drop (s : StOk K B G H W δ σ) (i : Nat) : ∃ W2, (∀ a ∈ W2, a ∈ W) ∧ StOk K B G H W2 (δ.set i .hole) σ := by
  cases e : δ[i]? with
  | none =>
    have : δ.set i .hole = δ := List.set_eq_of_length_le (by simpa using e)
    rw [this]
    exact ⟨W, fun _ m => m, s⟩
  | some t =>
    obtain ⟨o, W1, W2, eo, r, re, q⟩ := s.rep.take e
    have nd := q.nodup_iff.mp s.nd
    exact ⟨W2, fun a m => q.symm.subset (List.mem_append_right _ m), s.sub, fun a m => s.off a (q.symm.subset (List.mem_append_right _ m)), (List.nodup_append.mp nd).2.1, re, s.bor, fun a m => s.bof a (q.symm.subset (List.mem_append_right _ m))⟩
/-- a slot stored -/
theorem StOk.setS {t : T} {v : V} {i : Nat} (s : StOk K B G H W δ σ) (hs : setS i t δ = some δ') (off : ∀ a ∈ Wt, G a = none) (nd : (Wt ++ W).Nodup) (rt : RepT K B G H t v Wt) (bf : ∀ a ∈ Wt, B a = none) :
    ∃ W2, (∀ a ∈ W2, a ∈ Wt ++ W) ∧ StOk K B G H W2 δ' (σ.set i (some v)) := by
  unfold DL.setS at hs
  split at hs
  · rename_i hl
    cases hs
    obtain ⟨W2, sub, s2⟩ := s.drop i
    have nd2 : (Wt ++ W2).Nodup := nodup_app (List.nodup_append.mp nd).1 s2.nd fun c m m' => disj_of nd c m (sub c m')
    refine ⟨Wt ++ W2, fun a m => (List.mem_append.mp m).elim (List.mem_append_left _) fun z => List.mem_append_right _ (sub a z), s.sub, fun a m => ?_, nd2, RepE.store s2.rep hl rt, s.bor, fun a m => ?_⟩
    · exact (List.mem_append.mp m).elim (off a) (s2.off a)
    · exact (List.mem_append.mp m).elim (bf a) (s2.bof a)
  · cases hs
theorem set_get_ne {α : Type} {l : List α} {i j : Nat} {a : α} (h : j ≠ i) : (l.set i a)[j]? = l[j]? := List.getElem?_set_ne (Ne.symm h)
end
/-- what is held was new or ours -/
theorem held_bof {K : PySem.W.Frag} {B : BH} {G G' H H' : Hp} {W W' Wt : List Addr} {δ : Env} {σ : St} (s : StOk K B G H W δ σ) (n : Nx G H W G' H' (Wt ++ W')) : ∀ a ∈ Wt, B a = none := fun a m =>
  bof_next s.bor n s.bof a (List.mem_append_left _ m)

/-! ### statements -/
def sNx : SM := fun δ => .ok .nx δ
def sSeq (m n : SM) : SM := fun δ => match m δ with
  | .ok .nx δ1 => n δ1
  | r => r
section
variable {X : Cx} {B : BH} {Wx : WX} {Pn : List Nat} {st : Stmt} {sts : List Stmt} {m n : SM} {e a b c : Expr} {me ma : EM} {pos : Pos}
theorem db_nil : DB X B Wx Pn [] sNx := pssImp pss_nil fun D σ H ⟨G, W, δ, s, p⟩ => p G H W σ Nx.refl s (fun _ _ => rfl) rfl
theorem ds_pass : DS X B Wx Pn (.Pass pos) sNx := psImp ps_pass fun D σ H ⟨G, W, δ, s, p⟩ => p G H W σ Nx.refl s (fun _ _ => rfl) rfl
def sBk : SM := fun δ => .ok .bk δ
def sCt : SM := fun δ => .ok .ct δ
theorem ds_break : DS X B Wx Pn (.Break pos) sBk := psImp ps_break fun D σ H ⟨G, W, δ, s, p⟩ => p G H W σ Nx.refl s (fun _ _ => rfl) rfl
theorem ds_continue : DS X B Wx Pn (.Continue pos) sCt := psImp ps_continue fun D σ H ⟨G, W, δ, s, p⟩ => p G H W σ Nx.refl s (fun _ _ => rfl) rfl
theorem db_cons (h : DS X B Wx Pn st m) (g : DB X B Wx Pn sts n) : DB X B Wx Pn (st :: sts) (sSeq m n) := pssImp (pss_cons h g) fun D σ H ⟨G, W, δ, s, p⟩ => by
  refine ⟨G, W, δ, s, ?_⟩
  unfold sSeq at p
  cases e : m δ with
  | no => rw [e] at p; exact p
  | exn c x δ' => rw [e] at p; exact p
  | ok f δ1 =>
    rw [e] at p
    cases f with
    | nx => exact fun G1 H1 W1 σ1 n1 s1 pn hl => ⟨G1, W1, δ1, s1, p.next n1 pn hl⟩
    | bk => exact p
    | ct => exact p
    | rt t => exact p
theorem db_one (h : DS X B Wx Pn st m) : DB X B Wx Pn [st] m := pss_one h
/-- x = e -/
def sSet (i : Nat) (m : EM) : SM := fun δ => (m δ).bind fun t δ1 => match setS i t δ1 with
  | some δ2 => .ok .nx δ2
  | none => .no
theorem bind_S {K : PySem.W.Frag} {G H : Hp} {W : List Addr} {σ : St} {Q : VK} {D0 : Ends} {r : R T} {f : T → Env → R Fl} (p : PoS K B G H W σ Wx Pn D0 (r.bind f))
    (use : ∀ G' H' Wt W' t v δ', Nx G H W G' H' (Wt ++ W') → StOk K B G' H' W' δ' σ → (∀ a ∈ Wt, G' a = none) → (Wt ++ W').Nodup → RepT K B G' H' t v Wt → PoS K B G H W σ Wx Pn D0 (f t δ') → Q v H') : PoN K B G H W σ Wx Q r := by
  cases r with
  | no => exact p
  | exn c x δ' => exact PoX.poE p
  | ok t δ' => exact fun G' H' Wt W' v n s off nd rt => use G' H' Wt W' t v δ' n s off nd rt p
theorem set_sem {i : Nat} (hi : i ∉ Pn) {D : Ends} {σ : St} {H : Hp} (h : tS X.K B Wx Pn (sSet i me) D σ H) : tAsg (tN X.K B Wx me) (gName i) D σ H := by
  obtain ⟨G, W, δ, s, p⟩ := h
  refine ⟨G, W, δ, s, bind_S p fun G1 H1 Wt W1 t v δ1 n1 s1 off nd rt p1 => ?_⟩
  cases e : setS i t δ1 with
  | none => simp only [e] at p1; exact p1.elim
  | some δ2 =>
    simp only [e] at p1
    obtain ⟨W2, sub, s2⟩ := s1.setS e off nd rt (held_bof s n1)
    exact p1 G1 H1 W2 _ (n1.weak sub) s2 (fun j mj => set_get_ne fun z => hi (by rw [← z]; exact mj)) (by simp)
theorem ds_set {i : Nat} {x : Str} {pos' : Pos} (hN : X.N.Nodup) (hi : X.N[i]? = some x) (hx : Loc X.env.scope x) (hp : i ∉ Pn) (h : DN X B Wx e me) (hs : swapsWith e (some (.Name x pos')) pos.line X.env = pure false := by rfl)
    (hf : X.fn x = true ∨ X.env.scope.names.lookup x = some .local := by first | exact .inl rfl | exact .inr rfl | assumption) : DS X B Wx Pn (.Assign [.Name x pos'] e pos) (sSet i me) :=
  psImp (ps_set hN hi hx h hs hf) fun D σ H h => set_sem hp h
/-- an expression whose value is dropped -/
def sExp (m : EM) : SM := fun δ => (m δ).bind fun _ δ1 => .ok .nx δ1
theorem ds_expr (h : DN X B Wx e me) (hs : swapsWith e none pos.line X.env = pure false := by rfl) : DS X B Wx Pn (.Expr e pos) (sExp me) := psImp (ps_expr h hs) fun D σ H ⟨G, W, δ, s, p⟩ =>
  ⟨G, W, δ, s, bind_S p fun G1 H1 Wt W1 t v δ1 n1 s1 off nd rt p1 => p1 G1 H1 W1 σ (nx_tail n1) s1 (fun _ _ => rfl) rfl⟩
theorem ds_doc {x j pos'} : DS X B Wx Pn (.Expr (.Constant (.str x) j pos) pos') sNx := psImp ps_doc fun D σ H ⟨G, W, δ, s, p⟩ => p G H W σ Nx.refl s (fun _ _ => rfl) rfl
/-- return -/
def sRet (m : EM) : SM := fun δ => (m δ).bind fun t δ1 => .ok (.rt t) δ1
theorem ds_ret (h : DN X B Wx e me) : DS X B Wx Pn (.Return (some e) pos) (sRet me) := psImp (ps_ret h) fun D σ H ⟨G, W, δ, s, p⟩ =>
  ⟨G, W, δ, s, bind_S p fun G1 H1 Wt W1 t v δ1 n1 s1 off nd rt p1 => p1 G1 H1 Wt W1 σ v n1 s1 off nd rt (fun _ _ => rfl) rfl⟩
def sRetN : SM := fun δ => .ok (.rt (.d .non)) δ
theorem ds_retN : DS X B Wx Pn (.Return none pos) sRetN := psImp ps_retN fun D σ H ⟨G, W, δ, s, p⟩ =>
  p G H [] W σ .non Nx.refl s (fun _ m => nomatch m) (by simpa using s.nd) ⟨rfl, rfl⟩ (fun _ _ => rfl) rfl
/-- if -/
def sIf (t : BM) (m n : SM) : SM := fun δ => (t δ).bind fun k δ1 => if k then m δ1 else n δ1
theorem ds_if {t : BM} {ss ss' : List Stmt} (ht : DT X B Wx c t) (h : DB X B Wx Pn ss m) (g : DB X B Wx Pn ss' n) : DS X B Wx Pn (.If c ss ss' pos) (sIf t m n) := psImp (ps_if ht h g) fun D σ H ⟨G, W, δ, s, p⟩ =>
  ⟨G, W, δ, s, bind_BS p fun G1 H1 W1 k δ1 n1 s1 p1 => by
    cases k with
    | true => exact iteT ⟨G1, W1, δ1, s1, p1⟩
    | false => exact iteF ⟨G1, W1, δ1, s1, p1⟩⟩
/-- nothing is known of it: never reached -/
def sNo : SM := fun _ => .no
theorem ds_never : DS X B Wx Pn st sNo := psImp ps_never fun D σ H ⟨G, W, δ, s, p⟩ => p
theorem db_never : DB X B Wx Pn sts sNo := pssImp pss_never fun D σ H ⟨G, W, δ, s, p⟩ => p
end

/-! ### targets of frozen data -/
abbrev GM := D → Env → Option Env
def tG (K : PySem.W.Frag) (B : BH) (Pn : List Nat) (g : GM) : TG := fun v σ H Q => ∃ G W δ x δ', StOk K B G H W δ σ ∧ RepD K G x v ∧ g x δ = some δ' ∧
  ∀ W' σ', (∀ a ∈ W', a ∈ W) → StOk K B G H W' δ' σ' → (∀ i ∈ Pn, σ'[i]? = σ[i]?) → σ'.length = σ.length → Q σ' H
def tGs (K : PySem.W.Frag) (B : BH) (Pn : List Nat) (g : List D → Env → Option Env) : TGs := fun vs σ H Q => ∃ G W δ xs δ', StOk K B G H W δ σ ∧ RepDs K G xs vs ∧ g xs δ = some δ' ∧
  ∀ W' σ', (∀ a ∈ W', a ∈ W) → StOk K B G H W' δ' σ' → (∀ i ∈ Pn, σ'[i]? = σ[i]?) → σ'.length = σ.length → Q σ' H
abbrev DG (X : Cx) (B : BH) (Pn : List Nat) (tg : Expr) (g : GM) : Prop := PG X tg (tG X.K B Pn g)
abbrev DGs (X : Cx) (B : BH) (Pn : List Nat) (tg : List Expr) (g : List D → Env → Option Env) : Prop := PGs X tg (tGs X.K B Pn g)
section
variable {X : Cx} {B : BH} {Wx : WX} {Pn : List Nat} {pos : Pos}
theorem pgImp {e : Expr} {t t' : TG} (h : PG X e t) (i : ∀ v σ H Q, t' v σ H Q → t v σ H Q) : PG X e t' := ⟨fun pins s σ H v u Q I r q => h.run pins s σ H v u Q I r (i v σ H Q q)⟩
theorem pgsImp {e : List Expr} {t t' : TGs} (h : PGs X e t) (i : ∀ v σ H Q, t' v σ H Q → t v σ H Q) : PGs X e t' := ⟨fun pins s σ H v u Q I r q => h.run pins s σ H v u Q I r (i v σ H Q q)⟩
def gN (i : Nat) : GM := fun x δ => setS i (.d x) δ
theorem dg_name {i : Nat} {x : Str} (hN : X.N.Nodup) (hi : X.N[i]? = some x) (hx : Loc X.env.scope x) (hp : i ∉ Pn) (hf : X.fn x = true ∨ X.env.scope.names.lookup x = some .local := by first | exact .inl rfl | exact .inr rfl | assumption) :
    DG X B Pn (.Name x pos) (gN i) := pgImp (pg_name hN hi hx hf) fun v σ H Q ⟨G, W, δ, x, δ', s, r, e, k⟩ => by
  obtain ⟨W2, sub, s2⟩ := s.setS (Wt := []) e (fun _ m => nomatch m) (by simpa using s.nd) ⟨rfl, r⟩ (fun _ m => nomatch m)
  exact k W2 _ (fun a m => by simpa using sub a m) s2 (fun j mj => set_get_ne fun z => hp (by rw [← z]; exact mj)) (by simp)
def gNil : List D → Env → Option Env := fun xs δ => match xs with
  | [] => some δ
  | _ :: _ => none
def gCons (g : GM) (gs : List D → Env → Option Env) : List D → Env → Option Env := fun xs δ => match xs with
  | x :: r => (g x δ).bind (gs r)
  | [] => none
theorem dgs_nil : DGs X B Pn [] gNil := pgsImp pgs_nil fun vs σ H Q ⟨G, W, δ, xs, δ', s, r, e, k⟩ => by
  cases xs with
  | nil => cases e; exact ⟨r, k W σ (fun _ m => m) s (fun _ _ => rfl) rfl⟩
  | cons x xs => cases e
theorem dgs_cons {e : Expr} {es : List Expr} {g : GM} {gs : List D → Env → Option Env} (h1 : DG X B Pn e g) (h2 : DGs X B Pn es gs)
    (hs : (assignEach (e :: es) X.env).map (·.2) = assign e X.env :: (assignEach es X.env).map (·.2) := by rfl) : DGs X B Pn (e :: es) (gCons g gs) := pgsImp (pgs_cons h1 h2 hs) fun vs σ H Q ⟨G, W, δ, xs, δ', s, r, e, k⟩ => by
  cases xs with
  | nil => cases e
  | cons x xs =>
    obtain ⟨v, vr, ev, r1, r2⟩ := r
    unfold gCons at e
    obtain ⟨δ1, e1, e2⟩ := Option.bind_eq_some_iff.mp e
    refine ⟨v, vr, ev, G, W, δ, x, δ1, s, r1, e1, fun W1 σ1 sub s1 pn hl => ?_⟩
    exact ⟨G, W1, δ1, xs, δ', s1, r2, e2, fun W2 σ2 sub2 s2 pn2 hl2 => k W2 σ2 (fun a m => sub a (sub2 a m)) s2 (fun i m => (pn2 i m).trans (pn i m)) (hl2.trans hl)⟩
def gTup (n : Nat) (gs : List D → Env → Option Env) : GM := fun x δ => match x with
  | .tup xs => if xs.length = n then gs xs δ else none
  | _ => none
theorem dg_tup {es : List Expr} {k n : Nat} {gs : List D → Env → Option Env} (hc : X.calm = true) (h : DGs X B Pn es gs) (hn : (assignEach es X.env).length = n := by rfl) (hst : (assignEach es X.env).findIdx? (·.1) = none := by rfl) :
    DG X B Pn (.Tuple es k pos) (gTup n gs) := pgImp (pg_tup hc h hn hst) fun v σ H Q ⟨G, W, δ, x, δ', s, r, e, k⟩ => by
  cases x with
  | tup xs =>
    have e : (if xs.length = n then gs xs δ else none) = some δ' := e
    obtain ⟨a, vs, ev, q, r1⟩ := r
    split at e
    · rename_i hl
      exact ⟨a, vs, ev, sqT_mono s.sub q, r1.length.trans hl, G, W, δ, xs, δ', s, r1, e, k⟩
    · cases e
  | _ => cases e
/-- a, b = e -/
def sUnp (g : GM) (m : EM) : SM := fun δ => (m δ).val fun x δ1 => match g x δ1 with
  | some δ2 => .ok .nx δ2
  | none => .no
theorem ds_unp {tg e : Expr} {g : GM} {me : EM} (h : DN X B Wx e me) (hg : DG X B Pn tg g) (hs : swapsWithSole [tg] e pos.line X.env = pure false := by rfl) (hw : swappedStores [tg] e X.env = pure none := by rfl)
    (h1 : (assignEach [tg] X.env).map (·.2) = [assign tg X.env] := by rfl) : DS X B Wx Pn (.Assign [tg] e pos) (sUnp g me) := psImp (ps_asg h hg hs hw h1) fun D σ H ⟨G, W, δ, s, p⟩ =>
  ⟨G, W, δ, s, val_S p fun G1 H1 W1 x v δ1 n1 s1 r1 p1 => by
    cases e : g x δ1 with
    | none => simp only [e] at p1; exact p1.elim
    | some δ2 =>
      simp only [e] at p1
      exact ⟨G1, W1, δ1, x, δ2, s1, r1, e, fun W2 σ2 sub s2 pn hl => p1 G1 H1 W2 σ2 (Nx.refl.weak sub) s2 pn hl⟩⟩
/-- a, b = x, y -/
def sPar (i j : Nat) (ms : AM) : SM := fun δ => (ms δ).bind fun ts δ1 => match ts with
  | [t, u] => match (setS i t δ1).bind (setS j u) with
    | some δ2 => .ok .nx δ2
    | none => .no
  | _ => .no
theorem bind_AS {K : PySem.W.Frag} {G H : Hp} {W : List Addr} {σ : St} {Q : List V → Hp → Prop} {D0 : Ends} {r : R (List T)} {f : List T → Env → R Fl} (p : PoS K B G H W σ Wx Pn D0 (r.bind f))
    (use : ∀ G' H' Wt W' ts vs δ', Nx G H W G' H' (Wt ++ W') → StOk K B G' H' W' δ' σ → (∀ a ∈ Wt, G' a = none) → (Wt ++ W').Nodup → RepTs K B G' H' ts vs Wt → PoS K B G H W σ Wx Pn D0 (f ts δ') → Q vs H') : PoA K B G H W σ Wx Q r := by
  cases r with
  | no => exact p
  | exn c x δ' => exact PoX.poE p
  | ok ts δ' => exact fun G' H' Wt W' vs n s off nd rt => use G' H' Wt W' ts vs δ' n s off nd rt p
theorem ds_par {i j : Nat} {x y : Str} {a b : Expr} {ms : AM} {px py pt : Pos} {kt k2 pt2} (hc : X.calm = true) (hN : X.N.Nodup) (hi : X.N[i]? = some x) (hj : X.N[j]? = some y) (hij : i ≠ j) (hpi : i ∉ Pn) (hpj : j ∉ Pn)
    (hx : X.env.scope.names.lookup x = some .local) (hy : X.env.scope.names.lookup y = some .local) (ha : DA X B Wx [a, b] ms)
    (hw : swappedStores [.Tuple [.Name x px, .Name y py] kt pt] (.Tuple [a, b] k2 pt2) X.env = pure (some [x, y]))
    (hs : swapsWithSole [.Tuple [.Name x px, .Name y py] kt pt] (.Tuple [a, b] k2 pt2) pos.line X.env = pure false := by rfl) :
    DS X B Wx Pn (.Assign [.Tuple [.Name x px, .Name y py] kt pt] (.Tuple [a, b] k2 pt2) pos) (sPar i j ms) := psImp (ps_par hc hN hi hj hij hx hy ha hw hs) fun D σ H ⟨G, W, δ, s, p⟩ =>
  ⟨G, W, δ, s, bind_AS p fun G1 H1 Wt W1 ts vs δ1 n1 s1 off nd rt p1 => by
    match ts, rt with
    | [t, u], ⟨v, r, Wa, Wb, ev, ra, ⟨v2, r2, Wc, Wd, ev2, rb, rn, q2⟩, q⟩ =>
      obtain ⟨en, ew⟩ := rn
      subst en ew
      subst ev2
      refine ⟨v, v2, ev, ?_⟩
      have qa : Wt.Perm (Wa ++ Wc) := q.trans (List.Perm.append_left _ (by simpa using q2))
      have ndt := qa.nodup_iff.mp (List.nodup_append.mp nd).1
      have ina : ∀ c ∈ Wa, c ∈ Wt := fun c m => qa.symm.subset (List.mem_append_left _ m)
      have inc : ∀ c ∈ Wc, c ∈ Wt := fun c m => qa.symm.subset (List.mem_append_right _ m)
      simp only [R.bind] at p1
      cases e1 : setS i t δ1 with
      | none => simp only [e1, Option.bind] at p1; exact p1.elim
      | some δ2 =>
        cases e2 : setS j u δ2 with
        | none => simp only [e1, e2, Option.bind] at p1; exact p1.elim
        | some δ3 =>
          simp only [e1, e2, Option.bind] at p1
          have bf := held_bof s n1
          obtain ⟨W2, sub, s2⟩ := s1.setS e1 (fun c m => off c (ina c m)) (nodup_app (List.nodup_append.mp ndt).1 s1.nd fun c m m' => disj_of nd c (ina c m) m') ra fun c m => bf c (ina c m)
          have dj2 : ∀ c ∈ Wc, c ∉ W2 := fun c m m' => by
            rcases List.mem_append.mp (sub c m') with z | z
            · exact disj_of ndt c z m
            · exact disj_of nd c (inc c m) z
          obtain ⟨W3, sub3, s3⟩ := s2.setS e2 (fun c m => off c (inc c m)) (nodup_app (List.nodup_append.mp ndt).2.1 s2.nd dj2) (rb.perm (List.Perm.refl _)) fun c m => bf c (inc c m)
          refine p1 G1 H1 W3 _ (n1.weak fun c m => ?_) s3 (fun k mk => ?_) (by simp)
          · rcases List.mem_append.mp (sub3 c m) with z | z
            · exact List.mem_append_left _ (inc c z)
            · rcases List.mem_append.mp (sub c z) with z | z
              · exact List.mem_append_left _ (ina c z)
              · exact List.mem_append_right _ z
          · rw [set_get_ne fun z => hpj (by rw [← z]; exact mk), set_get_ne fun z => hpi (by rw [← z]; exact mk)]
    | [], _ => exact p1.elim
    | [_], _ => exact p1.elim
    | _ :: _ :: _ :: _, _ => exact p1.elim⟩
end
end L2.DL

namespace L2.DL
open PySem PySem.Spec PyProof.Rows

/-! ### what is walked -/
structure Src (K : PySem.W.Frag) (J : It) (G : Hp) (xs : List D) : Prop where
  stop : ∀ G' H, Same G G' → Same G' H → J.stop xs.length H
  go : ∀ G' H i, Same G G' → Same G' H → i < xs.length → J.go i H
  yld : ∀ G' H i x v H', Same G G' → Same G' H → xs[i]? = some x → J.yld i H v H' → ∃ G'', Nx G' H [] G'' H' [] ∧ Same G'' H' ∧ RepD K G'' x v
section
variable {K : PySem.W.Frag} {G G' H : Hp} {xs : List D} {vs : List V} {a : Addr}
theorem Src.mono {J : It} (s : Src K J G xs) (h : Same G G') : Src K J G' xs := ⟨fun G1 H a b => s.stop G1 H (h.trans a) b, fun G1 H i a b => s.go G1 H i (h.trans a) b, fun G1 H i x v H' a b => s.yld G1 H i x v H' (h.trans a) b⟩
theorem repDs_get {i : Nat} {x : D} (r : RepDs K G xs vs) (h : xs[i]? = some x) : ∃ v, vs[i]? = some v ∧ RepD K G x v := repDs_at r h
theorem src_list (q : SqL K G a vs) (r : RepDs K G xs vs) : Src K (Itl K a) G xs where
  stop := fun G' H h1 h2 => ⟨vs, (h1.trans h2).seq q, by rw [r.length]; exact Nat.le_refl _⟩
  go := fun G' H i h1 h2 hl => ⟨vs, _, (h1.trans h2).seq q, List.getElem?_eq_getElem (by rw [r.length]; exact hl)⟩
  yld := fun G' H i x v H' h1 h2 hx y => by
    obtain ⟨e, y⟩ := y
    subst e
    obtain ⟨w, hw, rw_⟩ := repDs_at r hx
    have := y vs ((h1.trans h2).seq q)
    rw [hw] at this
    cases this
    exact ⟨G', Nx.refl.weak (fun _ m => m), h2, rw_.mono h1⟩
theorem src_tup (q : SqT K G a vs) (r : RepDs K G xs vs) : Src K (Itt K a) G xs where
  stop := fun G' H h1 h2 => ⟨vs, sqT_mono (h1.trans h2) q, by rw [r.length]; exact Nat.le_refl _⟩
  go := fun G' H i h1 h2 hl => ⟨vs, _, sqT_mono (h1.trans h2) q, List.getElem?_eq_getElem (by rw [r.length]; exact hl)⟩
  yld := fun G' H i x v H' h1 h2 hx y => by
    obtain ⟨e, y⟩ := y
    subst e
    obtain ⟨w, hw, rw_⟩ := repDs_at r hx
    have := y vs (sqT_mono (h1.trans h2) q)
    rw [hw] at this
    cases this
    exact ⟨G', Nx.refl.weak (fun _ m => m), h2, rw_.mono h1⟩
/-- lo, lo + 1, .. -/
def rngD (lo : Int) (n : Nat) : List D := (List.range n).map fun i => .int (lo + (i : Nat))
theorem rngD_len {lo : Int} {n : Nat} : (rngD lo n).length = n := by simp [rngD]
theorem src_rng {lo : Int} {n : Nat} : Src K (Itr lo n) G (rngD lo n) where
  stop := fun G' H h1 h2 => by rw [rngD_len]; exact Nat.le_refl _
  go := fun G' H i h1 h2 hl => by rw [rngD_len] at hl; exact hl
  yld := fun G' H i x v H' h1 h2 hx y => by
    obtain ⟨e, y⟩ := y
    subst e y
    refine ⟨G', Nx.refl.weak (fun _ m => m), h2, ?_⟩
    have : i < n ∧ D.int (lo + (i : Nat)) = x := by
      simp only [rngD, List.getElem?_map] at hx
      cases h : (List.range n)[i]? with
      | none => rw [h] at hx; cases hx
      | some j =>
        rw [h] at hx
        obtain ⟨hl, e⟩ := List.getElem?_eq_some_iff.mp h
        rw [List.getElem_range] at e
        subst e
        rw [List.length_range] at hl
        exact ⟨hl, Option.some.inj hx⟩
    rw [← this.2]
    rfl
theorem tup_new {G' H : Hp} {T : Addr} {xs : List D} {vs : List V} (hT : H T = none) (sb : Same G' H) (r : RepDs K G' xs vs) : ∃ G'', Nx G' H [] G'' (upd H T (.tup vs)) [] ∧ Same G'' (upd H T (.tup vs)) ∧ RepD K G'' (.tup xs) (.ref T) := by
  obtain ⟨n, s1, s2, s3⟩ := new_frz (o := .tup vs) sb hT
  exact ⟨_, n, s1, T, vs, rfl, .inl (.inl (by rw [upd_same])), r.mono s2⟩
def enumD (xs : List D) : List D := (List.range xs.length).zipWith (fun i x => .tup [.int (i : Nat), x]) xs
theorem enumD_len {xs : List D} : (enumD xs).length = xs.length := by simp [enumD]
theorem enumD_at {xs : List D} {i : Nat} {y : D} (h : (enumD xs)[i]? = some y) : ∃ x, xs[i]? = some x ∧ y = .tup [.int (i : Nat), x] := by
  unfold enumD at h
  rw [List.getElem?_zipWith] at h
  cases h1 : (List.range xs.length)[i]? with
  | none => rw [h1] at h; cases h
  | some j =>
    obtain ⟨hl, e⟩ := List.getElem?_eq_some_iff.mp h1
    rw [List.getElem_range] at e
    subst e
    cases h2 : xs[i]? with
    | none => rw [h1, h2] at h; cases h
    | some x =>
      rw [h1, h2] at h
      exact ⟨x, rfl, (Option.some.inj h).symm⟩
theorem src_enum (q : SqL K G a vs) (r : RepDs K G xs vs) : Src K (Ite K a) G (enumD xs) where
  stop := fun G' H h1 h2 => ⟨vs, (h1.trans h2).seq q, by rw [r.length, enumD_len]; exact Nat.le_refl _⟩
  go := fun G' H i h1 h2 hl => ⟨vs, _, (h1.trans h2).seq q, List.getElem?_eq_getElem (by rw [r.length]; rw [enumD_len] at hl; exact hl)⟩
  yld := fun G' H i y v H' h1 h2 hx yy => by
    obtain ⟨T, x, e, hT, e2, y2⟩ := yy
    subst e e2
    obtain ⟨x0, hx0, ey⟩ := enumD_at hx
    subst ey
    obtain ⟨w, hw, rw_⟩ := repDs_at r hx0
    have := y2 vs ((h1.trans h2).seq q)
    rw [hw] at this
    cases this
    exact tup_new hT h2 ⟨.int (i : Nat), [_], rfl, rfl, _, [], rfl, rw_.mono h1, rfl⟩
def zipD (xs ys : List D) : List D := xs.zipWith (fun x y => .tup [x, y]) ys
theorem src_zip {b : Addr} {ys : List D} {us : List V} (hl : xs.length = ys.length) (q : SqL K G a vs) (r : RepDs K G xs vs) (q2 : SqL K G b us) (r2 : RepDs K G ys us) : Src K (Itz K a b) G (zipD xs ys) where
  stop := fun G' H h1 h2 => ⟨vs, us, (h1.trans h2).seq q, (h1.trans h2).seq q2, .inl (by rw [r.length]; simp [zipD, hl])⟩
  go := fun G' H i h1 h2 hi => by
    have hi : i < xs.length := by simp [zipD, hl] at hi; omega
    exact ⟨vs, us, _, _, (h1.trans h2).seq q, (h1.trans h2).seq q2, List.getElem?_eq_getElem (by rw [r.length]; exact hi), List.getElem?_eq_getElem (by rw [r2.length]; omega)⟩
  yld := fun G' H i y v H' h1 h2 hx yy => by
    obtain ⟨T, x, x2, e, hT, e2, y1, y2⟩ := yy
    subst e e2
    unfold zipD at hx
    rw [List.getElem?_zipWith] at hx
    cases e1 : xs[i]? with
    | none => rw [e1] at hx; cases hx
    | some x0 =>
      cases e2 : ys[i]? with
      | none => rw [e1, e2] at hx; cases hx
      | some z0 =>
        rw [e1, e2] at hx
        cases Option.some.inj hx
        obtain ⟨w, hw, rw_⟩ := repDs_at r e1
        obtain ⟨w2, hw2, rw2⟩ := repDs_at r2 e2
        have := y1 vs ((h1.trans h2).seq q)
        rw [hw] at this
        cases this
        have := y2 us ((h1.trans h2).seq q2)
        rw [hw2] at this
        cases this
        exact tup_new hT h2 ⟨_, _, rfl, rw_.mono h1, _, _, rfl, rw2.mono h1, rfl⟩
def chsD (s : Str) : List D := s.cps.toList.map fun c => .str ⟨#[c]⟩
theorem src_str {s : Str} : Src K (Its s) G (chsD s) where
  stop := fun G' H h1 h2 => by show s.cps.size ≤ (chsD s).length; simp [chsD]
  go := fun G' H i h1 h2 hi => by simp [chsD] at hi; exact hi
  yld := fun G' H i y v H' h1 h2 hx yy => by
    obtain ⟨e, c, hc, e2⟩ := yy
    subst e e2
    refine ⟨G', Nx.refl.weak (fun _ m => m), h2, ?_⟩
    simp only [chsD, List.getElem?_map, Array.getElem?_toList, hc] at hx
    cases Option.some.inj hx
    rfl
end

abbrev IM := Env → R (List D)
def PoI (K : PySem.W.Frag) (B : BH) (G H : Hp) (W : List Addr) (σ : St) (Wx : WX) (Q : It → Hp → Prop) : R (List D) → Prop
  | .ok xs δ' => ∀ G' H' W' J, Nx G H W G' H' W' → StOk K B G' H' W' δ' σ → Src K J G' xs → Q J H'
  | .exn c x δ' => PoE K B G H W σ Wx c x δ'
  | .no => False
def tI (K : PySem.W.Frag) (B : BH) (Wx : WX) (m : IM) : TI := fun σ H Q => ∃ G W δ, StOk K B G H W δ σ ∧ PoI K B G H W σ Wx Q (m δ)
abbrev DI (X : Cx) (B : BH) (Wx : WX) (tg e : Expr) (m : IM) : Prop := PI X tg e (tI X.K B Wx m)
theorem piImp {X : Cx} {tg e : Expr} {t t' : TI} (h : PI X tg e t) (i : ∀ σ H Q, t' σ H Q → t σ H Q) : PI X tg e t' := ⟨fun pins s σ H Q I q => h.run pins s σ H Q I (i σ H Q q)⟩
section
variable {K : PySem.W.Frag} {B : BH} {G G1 H H1 : Hp} {W W1 : List Addr} {σ : St} {Wx : WX}
theorem PoI.next {Q : It → Hp → Prop} (n : Nx G H W G1 H1 W1) : ∀ {r : R (List D)}, PoI K B G H W σ Wx Q r → PoI K B G1 H1 W1 σ Wx Q r
  | .ok _ _, p => fun G' H' W' J n' => p G' H' W' J (n.trans n')
  | .exn _ _ _, p => PoE.next p n
  | .no, p => p
theorem val_I {r : R T} {f : D → Env → R (List D)} {Q : VK} {Q' : It → Hp → Prop} (p : PoI K B G H W σ Wx Q' (r.val f))
    (use : ∀ G' H' W' x v δ', Nx G H W G' H' W' → StOk K B G' H' W' δ' σ → RepD K G' x v → PoI K B G' H' W' σ Wx Q' (f x δ') → Q v H') : PoN K B G H W σ Wx Q r :=
  val_use (P := fun G H W r => PoI K B G H W σ Wx Q' r) (fun _ _ _ _ z => z) (fun z => z) (fun _ _ _ _ n z => z.next n) p use
theorem vals_I {r : R (List T)} {f : List D → Env → R (List D)} {Q : List V → Hp → Prop} {Q' : It → Hp → Prop} (p : PoI K B G H W σ Wx Q' (r.vals f))
    (use : ∀ G' H' W' xs vs δ', Nx G H W G' H' W' → StOk K B G' H' W' δ' σ → RepDs K G' xs vs → PoI K B G' H' W' σ Wx Q' (f xs δ') → Q vs H') : PoA K B G H W σ Wx Q r := by
  cases r with
  | no => exact p
  | exn c x δ' => exact p
  | ok ts δ' =>
    intro G' H' Wt W' vs n s off nd rt
    cases ff : T.full.go ts with
    | false => exact (by simpa [R.vals, ff] using p : PoI K B G H W σ Wx Q' .no).elim
    | true =>
      obtain ⟨G2, n2, s2, rd⟩ := frzs ff s off nd rt
      exact use G2 H' W' _ vs δ' (n.trans n2) s2 rd (PoI.next (n.trans n2) (by simpa [R.vals, ff] using p))
end
def iLst (m : EM) : IM := fun δ => (m δ).val fun x δ1 => match x with
  | .lst xs => .ok xs δ1
  | .scr xs => .ok xs δ1
  | _ => .no
def iTp (m : EM) : IM := fun δ => (m δ).val fun x δ1 => match x with
  | .tup xs => .ok xs δ1
  | _ => .no
def iStrD (m : EM) : IM := fun δ => (m δ).val fun x δ1 => match x with
  | .str s => .ok (chsD s) δ1
  | _ => .no
def iR1 (ms : AM) : IM := fun δ => (ms δ).vals fun xs δ1 => match xs with
  | [.int j] => if -(2 ^ 62) ≤ j ∧ j < 2 ^ 62 then .ok (rngD 0 j.toNat) δ1 else .no
  | _ => .no
def iR2 (ms : AM) : IM := fun δ => (ms δ).vals fun xs δ1 => match xs with
  | [.int i, .int j] => if -(2 ^ 62) ≤ i ∧ i < 2 ^ 62 ∧ -(2 ^ 62) ≤ j ∧ j < 2 ^ 62 then .ok (rngD i (j - i).toNat) δ1 else .no
  | _ => .no
def lstOf? : D → Option (List D)
  | .lst xs => some xs
  | .scr xs => some xs
  | _ => none
def iEn (ms : AM) : IM := fun δ => (ms δ).vals fun xs δ1 => match xs with
  | [x] => match lstOf? x with
    | some ys => .ok (enumD ys) δ1
    | none => .no
  | _ => .no
def iZp (ms : AM) : IM := fun δ => (ms δ).vals fun xs δ1 => match xs with
  | [x, y] => match lstOf? x, lstOf? y with
    | some xs, some ys => if xs.length = ys.length then .ok (zipD xs ys) δ1 else .no
    | _, _ => .no
  | _ => .no
theorem lstOf_rep {K : PySem.W.Frag} {G : Hp} {x : D} {v : V} {xs : List D} (h : lstOf? x = some xs) (r : RepD K G x v) : ∃ a vs, v = .ref a ∧ SqL K G a vs ∧ RepDs K G xs vs := by
  cases x <;> simp only [lstOf?] at h <;> first | cases h | skip
  · obtain ⟨a, vs, e, q, r⟩ := r
    exact ⟨a, vs, e, .inl (.inl q), r⟩
  · obtain ⟨a, vs, e, q, r⟩ := r
    exact ⟨a, vs, e, q, r⟩
section
variable {X : Cx} {B : BH} {Wx : WX} {tg e a b : Expr} {m : EM} {ms : AM} {p pos : Pos}
theorem di_list (h : DN X B Wx e m) : DI X B Wx tg e (iLst m) := piImp (pi_list h) fun σ H Q ⟨G, W, δ, s, p⟩ =>
  ⟨G, W, δ, s, val_I p fun G1 H1 W1 x v δ1 n1 s1 r1 p1 => by
    cases x with
    | lst xs =>
      obtain ⟨a, vs, ev, q, r⟩ := r1
      exact ⟨a, ev, ⟨vs, .inl (.inl (s1.sub _ _ q))⟩, p1 G1 H1 W1 _ Nx.refl s1 (src_list (.inl (.inl q)) r)⟩
    | scr xs =>
      obtain ⟨a, vs, ev, q, r⟩ := r1
      exact ⟨a, ev, ⟨vs, s1.sub.seq q⟩, p1 G1 H1 W1 _ Nx.refl s1 (src_list q r)⟩
    | _ => exact p1.elim⟩
theorem di_tup (h : DN X B Wx e m) : DI X B Wx tg e (iTp m) := piImp (pi_tup h) fun σ H Q ⟨G, W, δ, s, p⟩ =>
  ⟨G, W, δ, s, val_I p fun G1 H1 W1 x v δ1 n1 s1 r1 p1 => by
    cases x with
    | tup xs =>
      obtain ⟨a, vs, ev, q, r⟩ := r1
      exact ⟨a, ev, ⟨vs, sqT_mono s1.sub q⟩, p1 G1 H1 W1 _ Nx.refl s1 (src_tup q r)⟩
    | _ => exact p1.elim⟩
theorem di_str (h : DN X B Wx e m) : DI X B Wx tg e (iStrD m) := piImp (pi_str h) fun σ H Q ⟨G, W, δ, s, p⟩ =>
  ⟨G, W, δ, s, val_I p fun G1 H1 W1 x v δ1 n1 s1 r1 p1 => by
    cases x with
    | str z => exact ⟨z, r1, p1 G1 H1 W1 _ Nx.refl s1 src_str⟩
    | _ => exact p1.elim⟩
theorem di_range1 (hg : Gl X "range") (hm : X.mg "range" = none) (ha : DA X B Wx [a] ms) (hs : starEach [a] X.env = [(false, eval a X.env)] := by rfl) : DI X B Wx tg (.Call (.Name "range" p) [a] [] pos) (iR1 ms) :=
  piImp (pi_range1 hg hm ha hs) fun σ H Q ⟨G, W, δ, s, p⟩ => ⟨G, W, δ, s, vals_I p fun G1 H1 W1 xs vs δ1 n1 s1 r1 p1 => by
    match xs, r1, p1 with
    | [.int j], ⟨v, r, ev, ra, rb⟩, p1 =>
      subst ev
      cases rb
      cases ra
      dsimp only at p1
      split at p1
      · rename_i h
        exact ⟨j, rfl, h.1, h.2, p1 G1 H1 W1 _ Nx.refl s1 src_rng⟩
      · exact p1.elim
    | [], _, p1 => exact p1.elim
    | [.non], _, p1 | [.bl _], _, p1 | [.str _], _, p1 | [.tup _], _, p1 | [.lst _], _, p1 | [.dic _ _], _, p1 | [.ins _ _ _], _, p1 | [.cls _], _, p1 | [.ty _], _, p1 | [.scr _], _, p1 | [.fn _ _], _, p1 => exact p1.elim
    | _ :: _ :: _, _, p1 => exact (by simpa using p1 : PoI _ _ _ _ _ _ _ _ .no).elim⟩
theorem di_range2 (hg : Gl X "range") (hm : X.mg "range" = none) (ha : DA X B Wx [a, b] ms) (hs : starEach [a, b] X.env = [(false, eval a X.env), (false, eval b X.env)] := by rfl) (hs2 : starEach [b] X.env = [(false, eval b X.env)] := by rfl) :
    DI X B Wx tg (.Call (.Name "range" p) [a, b] [] pos) (iR2 ms) :=
  piImp (pi_range2 hg hm ha hs hs2) fun σ H Q ⟨G, W, δ, s, p⟩ => ⟨G, W, δ, s, vals_I p fun G1 H1 W1 xs vs δ1 n1 s1 r1 p1 => by
    split at p1
    · rename_i i j
      obtain ⟨v, r, ev, ra, v2, r2, ev2, rb, rc⟩ := r1
      subst ev ev2
      cases rc
      cases ra
      cases rb
      split at p1
      · rename_i h
        exact ⟨i, j, rfl, h, p1 G1 H1 W1 _ Nx.refl s1 src_rng⟩
      · exact p1.elim
    · exact p1.elim⟩
theorem di_enum {elts : List Expr} {kk : Nat} {tpos : Pos} (hg : Gl X "enumerate") (hm : X.mg "enumerate" = none) (ha : DA X B Wx [e] ms) (hs : starEach [e] X.env = [(false, eval e X.env)] := by rfl) :
    DI X B Wx (.Tuple elts kk tpos) (.Call (.Name "enumerate" p) [e] [] pos) (iEn ms) :=
  piImp (pi_enum hg hm ha hs) fun σ H Q ⟨G, W, δ, s, p⟩ => ⟨G, W, δ, s, vals_I p fun G1 H1 W1 xs vs δ1 n1 s1 r1 p1 => by
    split at p1
    · rename_i x
      obtain ⟨v, r, ev, ra, rb⟩ := r1
      subst ev
      cases rb
      split at p1
      · rename_i ys h
        obtain ⟨a, us, e2, q, r⟩ := lstOf_rep h ra
        subst e2
        exact ⟨a, us, rfl, s1.sub.seq q, p1 G1 H1 W1 _ Nx.refl s1 (src_enum q r)⟩
      · exact p1.elim
    · exact p1.elim⟩
theorem di_zip {e2 : Expr} {elts : List Expr} {kk : Nat} {tpos : Pos} (hg : Gl X "zip") (hm : X.mg "zip" = none) (ha : DA X B Wx [e, e2] ms)
    (hs : starEach [e, e2] X.env = (false, eval e X.env) :: starEach [e2] X.env := by rfl) (hpl : (backTo pos (starEach [e2] X.env)).any (·.1) = false := by rfl) :
    DI X B Wx (.Tuple elts kk tpos) (.Call (.Name "zip" p) [e, e2] [] pos) (iZp ms) :=
  piImp (pi_zip hg hm ha hs hpl) fun σ H Q ⟨G, W, δ, s, p⟩ => ⟨G, W, δ, s, vals_I p fun G1 H1 W1 xs vs δ1 n1 s1 r1 p1 => by
    split at p1
    · rename_i x y
      obtain ⟨v, r, ev, ra, v2, r2, ev2, rb, rc⟩ := r1
      subst ev ev2
      cases rc
      split at p1
      · rename_i ys zs h h2
        split at p1
        · rename_i hl
          obtain ⟨a, us, e2, q, r⟩ := lstOf_rep h ra
          obtain ⟨b, ws, e3, q2, r2⟩ := lstOf_rep h2 rb
          subst e2 e3
          exact ⟨a, b, us, ws, rfl, s1.sub.seq q, s1.sub.seq q2, p1 G1 H1 W1 _ Nx.refl s1 (src_zip hl q r q2 r2)⟩
        · exact p1.elim
      · exact p1.elim
    · exact p1.elim⟩
end

/-! ### for -/
def forget : List Nat → Env → Env
  | [], δ => δ
  | i :: r, δ => forget r (δ.set i .hole)
theorem StOk.forget {K : PySem.W.Frag} {B : BH} {G H : Hp} {σ : St} : ∀ {vs : List Nat} {W : List Addr} {δ : Env}, StOk K B G H W δ σ → ∃ W', (∀ a ∈ W', a ∈ W) ∧ StOk K B G H W' (forget vs δ) σ
  | [], W, δ, s => ⟨W, fun _ m => m, s⟩
  | i :: r, W, δ, s => by
    obtain ⟨W1, sub, s1⟩ := s.drop i
    obtain ⟨W2, sub2, s2⟩ := StOk.forget (vs := r) s1
    exact ⟨W2, fun a m => sub a (sub2 a m), s2⟩
def loopD (g : GM) (body : SM) (dr : List Nat) : List D → Env → R Fl
  | [], δ => .ok .nx δ
  | x :: xs, δ => match g x δ with
    | none => .no
    | some δ1 => match body δ1 with
      | .ok .nx δ2 => loopD g body dr xs (forget dr δ2)
      | .ok .ct δ2 => loopD g body dr xs (forget dr δ2)
      | .ok .bk δ2 => .ok .nx δ2
      | r => r
def sFor (m : IM) (g : GM) (dr : List Nat) (body : SM) : SM := fun δ => (m δ).bind fun xs δ1 => loopD g body dr xs δ1
section
variable {X : Cx} {B : BH} {Wx : WX} {Pn : List Nat} {pos : Pos}
theorem ds_for {tg iter : Expr} {body : List Stmt} {m : IM} {g : GM} {n : SM} (dr : List Nat) (hp : PassesOwn (model X.prog X.w) X.A X.env X.xe) (hc : X.calm = true) (hi : DI X B Wx tg iter m) (hg : DG X B Pn tg g) (hb : DB X B Wx Pn body n)
    (hs : ∀ x, foldedSetIterable iter X.env x = pure x := by intro _; rfl) : DS X B Wx Pn (.For tg iter body [] pos) (sFor m g dr n) := psImp (ps_for hp hc hi hg hb hs) fun D σ H ⟨G, W, δ, s, p⟩ => by
  refine ⟨G, W, δ, s, ?_⟩
  unfold sFor at p
  cases e : m δ with
  | no => rw [e] at p; exact p
  | exn c x δ' => rw [e] at p; exact PoX.poE p
  | ok xs δ1 =>
    rw [e] at p
    have p : PoS X.K B G H W σ Wx Pn D (loopD g n dr xs δ1) := p
    intro G1 H1 W1 J n1 s1 src
    refine ⟨fun i m σ' H' => ∃ G' W' δ', StOk X.K B G' H' W' δ' σ' ∧ Src X.K J G' xs ∧ i ≤ xs.length ∧ m = xs.length - i ∧ PoS X.K B G' H' W' σ' Wx Pn D (loopD g n dr (xs.drop i) δ'), ⟨xs.length, G1, W1, δ1, s1, src, Nat.zero_le _, by simp, by simpa using p.next n1 (fun _ _ => rfl) rfl⟩, ?_⟩
    rintro i m σ2 H2 ⟨G2, W2, δ2, s2, src2, hi, rfl, p2⟩
    by_cases hlt : i < xs.length
    · refine .inr ⟨src2.go G2 H2 i (Same.refl _) s2.sub hlt, fun σ' H' => ∃ G' W' δ', StOk X.K B G' H' W' δ' σ' ∧ Src X.K J G' xs ∧ PoS X.K B G' H' W' σ' Wx Pn D (loopD g n dr (xs.drop (i + 1)) δ'), fun σ' H' ⟨G', W', δ', a, b, c⟩ => ⟨xs.length - (i + 1), by omega, G', W', δ', a, b, hlt, rfl, c⟩, fun v H3 y => ?_⟩
      have hx : xs[i]? = some xs[i] := List.getElem?_eq_getElem hlt
      obtain ⟨G3, n3, sb3, r3⟩ := src2.yld G2 H2 i _ v H3 (Same.refl _) s2.sub hx y
      have n3' : Nx G2 H2 W2 G3 H3 W2 := by simpa using n3.beside (W2 := W2)
      have s3 : StOk X.K B G3 H3 W2 δ2 σ2 := s2.next n3 sb3 (fun _ _ m => nomatch m) (fun _ m => nomatch m)
      have p3 := p2.next n3' (fun _ _ => rfl) rfl
      rw [List.drop_eq_getElem_cons hlt] at p3
      unfold loopD at p3
      cases eg : g xs[i] δ2 with
      | none => simp only [eg] at p3; exact p3.elim
      | some δ3 =>
        simp only [eg] at p3
        refine ⟨G3, W2, δ2, xs[i], δ3, s3, r3, eg, fun W4 σ4 sub s4 pn hl => ?_⟩
        refine ⟨G3, W4, δ3, s4, ?_⟩
        have p4 := p3.next (Nx.refl.weak sub) pn hl
        have again : ∀ δ5, PoS X.K B G3 H3 W4 σ4 Wx Pn D (loopD g n dr (xs.drop (i + 1)) (forget dr δ5)) → ∀ G' H' W' σ', Nx G3 H3 W4 G' H' W' → StOk X.K B G' H' W' δ5 σ' → (∀ i ∈ Pn, σ'[i]? = σ4[i]?) → σ'.length = σ4.length → ∃ G' W' δ', StOk X.K B G' H' W' δ' σ' ∧ Src X.K J G' xs ∧ PoS X.K B G' H' W' σ' Wx Pn D (loopD g n dr (xs.drop (i + 1)) δ') := fun δ5 p5 G' H' W' σ' n' s' pn' hl' => by
          obtain ⟨W6, sub6, s6⟩ := s'.forget (vs := dr)
          exact ⟨G', W6, _, s6, src2.mono (n3.sub.trans n'.sub), p5.next (n'.weak sub6) pn' hl'⟩
        cases en : n δ3 with
        | no => simp only [en] at p4; exact p4.elim
        | exn c x δ5 => simp only [en] at p4; exact p4
        | ok f δ5 =>
          cases f with
          | nx => simp only [en] at p4; exact again δ5 p4
          | ct => simp only [en] at p4; exact again δ5 p4
          | bk => simp only [en] at p4; exact p4
          | rt t => simp only [en] at p4; exact p4
    · have ei : i = xs.length := by omega
      subst ei
      rw [List.drop_length] at p2
      exact .inl ⟨src2.stop G2 H2 (Same.refl _) s2.sub, p2 G2 H2 W2 σ2 Nx.refl s2 (fun _ _ => rfl) rfl⟩
end

/-! ### while -/
def whileN (t : BM) (body : SM) (dr : List Nat) : Nat → Env → Option (R Fl)
  | 0, _ => none
  | k + 1, δ => match t δ with
    | .no => some .no
    | .exn c x δ' => some (.exn c x δ')
    | .ok false δ1 => some (.ok .nx δ1)
    | .ok true δ1 => match body δ1 with
      | .ok .nx δ2 => whileN t body dr k (forget dr δ2)
      | .ok .ct δ2 => whileN t body dr k (forget dr δ2)
      | .ok .bk δ2 => some (.ok .nx δ2)
      | r => some r
open Classical in
noncomputable def sWhile (t : BM) (dr : List Nat) (body : SM) : SM := fun δ => if h : ∃ k r, whileN t body dr k δ = some r then h.choose_spec.choose else .no
theorem whileN_mono {t : BM} {body : SM} {dr : List Nat} : ∀ {k j : Nat} {δ : Env} {r : R Fl}, whileN t body dr k δ = some r → k ≤ j → whileN t body dr j δ = some r
  | 0, _, _, _, h, _ => by cases h
  | k + 1, 0, _, _, _, hl => by omega
  | k + 1, j + 1, δ, r, h, hl => by
    unfold whileN at h ⊢
    cases e : t δ with
    | no => rw [e] at h; exact h
    | exn c x δ' => rw [e] at h; exact h
    | ok b δ1 =>
      rw [e] at h
      cases b with
      | false => exact h
      | true =>
        dsimp only at h ⊢
        cases e2 : body δ1 with
        | no => rw [e2] at h; exact h
        | exn c x δ' => rw [e2] at h; exact h
        | ok f δ2 =>
          rw [e2] at h
          cases f with
          | nx => exact whileN_mono (k := k) (j := j) h (by omega)
          | ct => exact whileN_mono (k := k) (j := j) h (by omega)
          | bk => exact h
          | rt t => exact h
theorem sWhile_of {t : BM} {body : SM} {dr : List Nat} {k : Nat} {δ : Env} {r : R Fl} (h : whileN t body dr k δ = some r) : sWhile t dr body δ = r := by
  have hx : ∃ k r, whileN t body dr k δ = some r := ⟨k, r, h⟩
  unfold sWhile
  rw [dif_pos hx]
  have h2 := hx.choose_spec.choose_spec
  have a := whileN_mono h (Nat.le_max_left k hx.choose)
  have b := whileN_mono h2 (Nat.le_max_right k hx.choose)
  rw [a] at b
  exact (Option.some.inj b).symm
section
variable {X : Cx} {B : BH} {Wx : WX} {Pn : List Nat} {pos : Pos}
theorem ds_while {c : Expr} {body : List Stmt} {t : BM} {n : SM} (dr : List Nat) (hp : PassesOwn (model X.prog X.w) X.A X.env X.xe) (hc : DT X B Wx c t) (hb : DB X B Wx Pn body n) : DS X B Wx Pn (.While c body [] pos) (sWhile t dr n) := psImp (ps_while hp hc hb) fun D σ H ⟨G, W, δ, s, p⟩ => by
  by_cases hx : ∃ k r, whileN t n dr k δ = some r
  · obtain ⟨k, r, hk⟩ := hx
    rw [sWhile_of hk] at p
    refine ⟨fun m σ H => ∃ G W δ r, StOk X.K B G H W δ σ ∧ whileN t n dr m δ = some r ∧ PoS X.K B G H W σ Wx Pn D r, ⟨k, G, W, δ, r, s, hk, p⟩, ?_⟩
    rintro m σ1 H1 ⟨G1, W1, δ1, r1, s1, h1, p1⟩
    refine ⟨G1, W1, δ1, s1, ?_⟩
    cases m with
    | zero => cases h1
    | succ m =>
      unfold whileN at h1
      cases e : t δ1 with
      | no => rw [e] at h1; cases h1; exact p1.elim
      | exn c x δ' => rw [e] at h1; cases h1; exact PoX.poE p1
      | ok b δ2 =>
        rw [e] at h1
        intro G2 H2 W2 n2 s2
        cases b with
        | false =>
          cases h1
          rw [if_neg Bool.false_ne_true]
          exact p1 G2 H2 W2 σ1 n2 s2 (fun _ _ => rfl) rfl
        | true =>
          rw [if_pos rfl]
          dsimp only at h1
          refine ⟨fun σ H => ∃ G W δ r, StOk X.K B G H W δ σ ∧ whileN t n dr m δ = some r ∧ PoS X.K B G H W σ Wx Pn D r, fun σ' H' w => ⟨m, Nat.lt_succ_self m, w⟩, G2, W2, δ2, s2, ?_⟩
          have p2 := p1.next n2 (fun _ _ => rfl) rfl
          have again : ∀ δ3, whileN t n dr m (forget dr δ3) = some r1 → ∀ G' H' W' σ', Nx G2 H2 W2 G' H' W' → StOk X.K B G' H' W' δ3 σ' → (∀ i ∈ Pn, σ'[i]? = σ1[i]?) → σ'.length = σ1.length → ∃ G W δ r, StOk X.K B G H' W δ σ' ∧ whileN t n dr m δ = some r ∧ PoS X.K B G H' W σ' Wx Pn D r := fun δ3 h3 G' H' W' σ' n' s' pn' hl' => by
            obtain ⟨W6, sub6, s6⟩ := s'.forget (vs := dr)
            exact ⟨G', W6, _, r1, s6, h3, p2.next (n'.weak sub6) pn' hl'⟩
          cases en : n δ2 with
          | no => rw [en] at h1; cases h1; exact p2.elim
          | exn c x δ' => rw [en] at h1; cases h1; exact p2
          | ok f δ3 =>
            rw [en] at h1
            cases f with
            | nx => exact again δ3 h1
            | ct => exact again δ3 h1
            | bk => cases h1; exact p2
            | rt t => cases h1; exact p2
  · have e : sWhile t dr n δ = .no := by unfold sWhile; rw [dif_neg hx]
    rw [e] at p
    exact p.elim
end
end L2.DL

namespace L2.DL
open PySem PySem.Spec PyProof.Rows

/-! ### defs: what one promises -/
inductive FR where
  | ret (t : T) (outs : List T)
  | exn (c : Str) (x : Exn) (outs : List T)
  | no
abbrev FM := List T → FR
def pick (io : List Nat) (vs : List V) : List V := io.map fun i => vs.getD i .non
def outs (io : List Nat) (δ : Env) : List T := io.map fun i => δ.getD i .hole
def FPost (K : PySem.W.Frag) (B : BH) (G H : Hp) (W : List Addr) (iov : List V) (Q : VK) (E : XK) : FR → Prop
  | .ret t os => ∀ G' H' Wt W' u, Nx G H W G' H' (Wt ++ W') → Same G' H' → (∀ a ∈ Wt ++ W', G' a = none) → (Wt ++ W').Nodup → RepT K B G' H' t u Wt → RepTs K B G' H' os iov W' → Q u H'
  | .exn c x os => ∀ G' H' W' cls d, Nx G H W G' H' W' → Same G' H' → (∀ a ∈ W', G' a = none) → W'.Nodup → RepTs K B G' H' os iov W' → ExR K G' c x cls d → E cls d H'
  | .no => False
def spF (K : PySem.W.Frag) (n : Nat) (io : List Nat) (F : FM) : Sp := fun vs H Q E => vs.length = n ∧ ∃ (B : BH) (G : Hp) (W : List Addr) (ts : List T), Same G H ∧ Same B H ∧ W.Nodup ∧ (∀ a ∈ W, G a = none) ∧ (∀ a ∈ W, B a = none) ∧ RepTs K B G H ts vs W ∧ FPost K B G H W (pick io vs) Q E (F ts)
def mkF (n : Nat) (io : List Nat) (m : SM) : FM := fun ts => match m (ts ++ List.replicate (n - ts.length) .hole) with
  | .ok .nx δ => .ret (.d .non) (outs io δ)
  | .ok (.rt t) δ => .ret t (outs io δ)
  | .ok _ _ => .no
  | .exn c x δ => .exn c x (outs io δ)
  | .no => .no
section
variable {K : PySem.W.Frag} {B : BH} {G H : Hp}
theorem repE_holes : ∀ n, RepE K B G H (List.replicate n .hole) (List.replicate n none) []
  | 0 => ⟨rfl, rfl⟩
  | n + 1 => ⟨none, _, [], [], rfl, .inl ⟨rfl, rfl⟩, repE_holes n, List.Perm.refl _⟩
theorem repE_start : ∀ {ts : List T} {vs : List V} {W : List Addr} (n : Nat), RepTs K B G H ts vs W → RepE K B G H (ts ++ List.replicate n .hole) (vs.map some ++ List.replicate n none) W
  | [], _, _, n, ⟨e, w⟩ => by
    subst e w
    exact repE_holes n
  | t :: ts, _, _, n, ⟨v, r, W1, W2, e, a, b, q⟩ => by
    subst e
    exact ⟨some v, _, W1, W2, rfl, .inr ⟨v, rfl, a⟩, repE_start n b, q⟩
theorem getD_get? {α : Type} {l : List α} {i : Nat} {d t : α} (h : l[i]? = some t) : l.getD i d = t := by rw [List.getD_eq_getElem?_getD, h]; rfl
theorem outs_rep {σ : St} {vs : List V} : ∀ {io : List Nat} {δ : Env} {W : List Addr}, RepE K B G H δ σ W → io.Nodup → (∀ i ∈ io, σ[i]? = some (some (vs.getD i .non))) → ∃ W' Wr, RepTs K B G H (outs io δ) (pick io vs) W' ∧ W.Perm (W' ++ Wr)
  | [], δ, W, r, _, _ => ⟨[], W, ⟨rfl, rfl⟩, List.Perm.refl _⟩
  | i :: io, δ, W, r, nd, hs => by
    obtain ⟨ni, nd'⟩ := List.nodup_cons.mp nd
    have hi := hs i List.mem_cons_self
    have hlt : i < δ.length := by
      rw [← r.length]
      exact (List.getElem?_eq_some_iff.mp hi).1
    have ht : δ[i]? = some δ[i] := List.getElem?_eq_getElem hlt
    obtain ⟨o, W1, W2, eo, ro, re, q⟩ := r.take ht
    rw [hi] at eo
    cases eo
    obtain ⟨W3, Wr, rt, q2⟩ := outs_rep (io := io) re nd' fun j hj => hs j (List.mem_cons_of_mem _ hj)
    have eo : outs io (δ.set i .hole) = outs io δ := by
      refine List.map_congr_left fun j hj => ?_
      have hne : i ≠ j := fun z => ni (by rw [z]; exact hj)
      simp only [List.getD_eq_getElem?_getD]
      rw [List.getElem?_set_ne hne]
    rw [eo] at rt
    refine ⟨W1 ++ W3, Wr, ⟨_, _, W1, W3, rfl, ?_, rt, List.Perm.refl _⟩, ?_⟩
    · show RepT K B G H (δ.getD i .hole) (vs.getD i .non) W1
      rw [getD_get? ht]
      rcases ro with ⟨z, w⟩ | ⟨v, ev, rv⟩
      · rw [z, w]
        exact rfl
      · rw [← Option.some.inj ev] at rv
        exact rv
    · rw [List.append_assoc]
      exact q.trans (List.Perm.append_left _ q2)
end
/-- the rule for a def -/
theorem fn_ok {P : Program} {w : World} {K : PySem.W.Frag} {mg : Str → Option Value} {base : Heap} {x qual : Str} {params : Arguments} {body : List Stmt} {scope : Scope} {dvs : List V} {kws : List (Str × V)} {f : Addr} {fd : FuncData} {N ps : List Str} {k : Nat} {m : SM} (io : List Nat)
    (F : FunD K x qual params body scope dvs kws f fd) (S : FnScope N ps scope) (hio : io.Nodup) (hin : ∀ i ∈ io, i < ps.length)
    (hbody : ∀ (cdv : Value) (A : Around) (outer : List PySem.Env) (s : Shared) (H : Hp) (B : BH) (E : XK), Room k (A.deeper (envOfC qual scope s.heap.objs.size f cdv)) → DB (cxOf (CX P w) P w K mg base N qual scope f cdv A outer s H E) B (fun cls d _ H => E cls d H) io body m) :
    FnOk P w K mg base (CX P w) (k + 1) f fd ps (spF K ps.length io (mkF N.length io m)) := by
  refine F.ok S (fun vs H Q E h => h.1) fun cdv A outer s H vs Q E hr h => ?_
  obtain ⟨hl, B, G, W, ts, sG, sB, nd, oG, oB, rt, post⟩ := h
  refine ⟨_, hbody cdv A outer s H B E hr, G, W, ts ++ List.replicate (N.length - vs.length) .hole, ⟨sG, oG, nd, show RepE K B G H _ (start N vs) W from repE_start _ rt, sB, oB⟩, ?_⟩
  have hvt : vs.length = ts.length := rt.length
  have init : ∀ i ∈ io, (start N vs)[i]? = some (some (vs.getD i .non)) := fun i hi => by
    have hlt : i < vs.length := by rw [hl]; exact hin i hi
    have : (vs.map some)[i]? = some (some (vs.getD i .non)) := by
      rw [List.getElem?_map, List.getElem?_eq_getElem hlt, getD_get? (List.getElem?_eq_getElem hlt)]
      rfl
    unfold start
    rw [List.getElem?_append_left (by rw [List.length_map]; exact hlt)]
    exact this
  have fin : ∀ {δ' G' H' W' σ'}, StOk K B G' H' W' δ' σ' → (∀ i ∈ io, σ'[i]? = (start N vs)[i]?) → ∃ Wo Wr, RepTs K B G' H' (outs io δ') (pick io vs) Wo ∧ W'.Perm (Wo ++ Wr) := fun s' pn => outs_rep s'.rep hio fun i hi => (pn i hi).trans (init i hi)
  unfold mkF at post
  rw [hvt]
  cases e : m (ts ++ List.replicate (N.length - ts.length) T.hole) with
  | no => rw [e] at post; exact post.elim
  | exn c x δ' =>
    rw [e] at post
    intro G' H' W' σ' cls d n' s' pn _ ex
    obtain ⟨Wo, Wr, ro, q⟩ := fin s' pn
    have sub : ∀ c ∈ Wo, c ∈ W' := fun c m => q.symm.subset (List.mem_append_left _ m)
    exact post G' H' Wo cls d (n'.weak sub) s'.sub (fun c m => s'.off c (sub c m)) (List.nodup_append.mp (q.nodup_iff.mp s'.nd)).1 ro ex
  | ok f δ' =>
    rw [e] at post
    cases f with
    | bk => exact post.elim
    | ct => exact post.elim
    | nx =>
      intro G' H' W' σ' n' s' pn _
      obtain ⟨Wo, Wr, ro, q⟩ := fin s' pn
      have sub : ∀ c ∈ Wo, c ∈ W' := fun c m => q.symm.subset (List.mem_append_left _ m)
      exact post G' H' [] Wo .non (n'.weak sub) s'.sub (fun c m => s'.off c (sub c m)) (List.nodup_append.mp (q.nodup_iff.mp s'.nd)).1 ⟨rfl, rfl⟩ ro
    | rt t =>
      intro G' H' Wt W' σ' v n' s' off nd2 rtt pn _
      obtain ⟨Wo, Wr, ro, q⟩ := fin s' pn
      have sub : ∀ c ∈ Wo, c ∈ W' := fun c m => q.symm.subset (List.mem_append_left _ m)
      have sub2 : ∀ c ∈ Wt ++ Wo, c ∈ Wt ++ W' := fun c m => (List.mem_append.mp m).elim (List.mem_append_left _) fun z => List.mem_append_right _ (sub c z)
      refine post G' H' Wt Wo v (n'.weak sub2) s'.sub (fun c m => (List.mem_append.mp m).elim (off c) fun z => s'.off c (sub c z)) ?_ rtt ro
      exact nodup_app (List.nodup_append.mp nd2).1 (List.nodup_append.mp (q.nodup_iff.mp s'.nd)).1 fun c m m' => disj_of nd2 c m (sub c m')

/-! ### arguments: values, or slots lent -/
abbrev RM := Env → R (T × Option Nat)
abbrev LM := Env → R (List (T × Option Nat))
def rVal (m : EM) : RM := fun δ => (m δ).val fun x δ1 => .ok (.d x, none) δ1
def rOwn (m : EM) : RM := fun δ => (m δ).bind fun t δ1 => .ok (t, none) δ1
def rLend (i : Nat) : RM := fun δ => match δ[i]? with
  | some .hole => .no
  | some .exc => .no
  | some (.bor _) => .no
  | some (.d _) => .no
  | some t => .ok (t, some i) (δ.set i .hole)
  | none => .no
def lNil : LM := fun δ => .ok [] δ
def lCons (m : RM) (r : LM) : LM := fun δ => (m δ).bind fun t δ1 => (r δ1).bind fun ts δ2 => .ok (t :: ts) δ2
def LendOk (σ : St) : List (T × Option Nat) → List V → Prop
  | [], _ => True
  | (_, o) :: r, vs => ∃ v vr, vs = v :: vr ∧ (∀ i, o = some i → σ[i]? = some (some v)) ∧ LendOk σ r vr
section
variable (K : PySem.W.Frag) (B : BH) (G H : Hp) (W : List Addr) (σ : St) (Wx : WX)
def PoR (Q : VK) : R (T × Option Nat) → Prop
  | .ok (t, o) δ' => ∀ G' H' Wt W' v, Nx G H W G' H' (Wt ++ W') → StOk K B G' H' W' δ' σ → (∀ a ∈ Wt, G' a = none) → (Wt ++ W').Nodup → RepT K B G' H' t v Wt → (∀ i, o = some i → σ[i]? = some (some v)) → Q v H'
  | .exn c x δ' => PoE K B G H W σ Wx c x δ'
  | .no => False
def PoL (Q : List V → Hp → Prop) : R (List (T × Option Nat)) → Prop
  | .ok l δ' => ∀ G' H' Wt W' vs, Nx G H W G' H' (Wt ++ W') → StOk K B G' H' W' δ' σ → (∀ a ∈ Wt, G' a = none) → (Wt ++ W').Nodup → RepTs K B G' H' (l.map (·.1)) vs Wt → LendOk σ l vs → Q vs H'
  | .exn c x δ' => PoE K B G H W σ Wx c x δ'
  | .no => False
end
def tR (K : PySem.W.Frag) (B : BH) (Wx : WX) (m : RM) : TE := fun σ H Q => ∃ G W δ, StOk K B G H W δ σ ∧ PoR K B G H W σ Wx Q (m δ)
def tLs (K : PySem.W.Frag) (B : BH) (Wx : WX) (m : LM) : TA := fun σ H Q => ∃ G W δ, StOk K B G H W δ σ ∧ PoL K B G H W σ Wx Q (m δ)
abbrev DR (X : Cx) (B : BH) (Wx : WX) (e : Expr) (m : RM) : Prop := PE X e (tR X.K B Wx m)
abbrev DLs (X : Cx) (B : BH) (Wx : WX) (es : List Expr) (m : LM) : Prop := PA X es (tLs X.K B Wx m)
theorem nodup_tail {A B : List Addr} (h : (A ++ B).Nodup) : B.Nodup := (List.nodup_append.mp h).2.1
theorem PoR.next {K : PySem.W.Frag} {B : BH} {G G1 H H1 : Hp} {W W1 : List Addr} {σ : St} {Wx : WX} {Q : VK} (n : Nx G H W G1 H1 W1) : ∀ {r : R (T × Option Nat)}, PoR K B G H W σ Wx Q r → PoR K B G1 H1 W1 σ Wx Q r
  | .ok (_, _) _, p => fun G' H' Wt W' v n' => p G' H' Wt W' v (n.trans n')
  | .exn _ _ _, p => PoE.next p n
  | .no, p => p
theorem PoL.next {K : PySem.W.Frag} {B : BH} {G G1 H H1 : Hp} {W W1 : List Addr} {σ : St} {Wx : WX} {Q : List V → Hp → Prop} (n : Nx G H W G1 H1 W1) : ∀ {r : R (List (T × Option Nat))}, PoL K B G H W σ Wx Q r → PoL K B G1 H1 W1 σ Wx Q r
  | .ok _ _, p => fun G' H' Wt W' v n' => p G' H' Wt W' v (n.trans n')
  | .exn _ _ _, p => PoE.next p n
  | .no, p => p
section
variable {X : Cx} {B : BH} {Wx : WX} {e : Expr} {es : List Expr} {m : EM} {rm : RM} {lm : LM} {pos : Pos}
theorem val_R {K : PySem.W.Frag} {G H : Hp} {W : List Addr} {σ : St} {r : R T} {f : D → Env → R (T × Option Nat)} {Q : VK} {Q' : VK} (p : PoR K B G H W σ Wx Q' (r.val f))
    (use : ∀ G' H' W' x v δ', Nx G H W G' H' W' → StOk K B G' H' W' δ' σ → RepD K G' x v → PoR K B G' H' W' σ Wx Q' (f x δ') → Q v H') : PoN K B G H W σ Wx Q r :=
  val_use (P := fun G H W r => PoR K B G H W σ Wx Q' r) (fun _ _ _ _ z => z) (fun z => z) (fun _ _ _ _ n z => z.next n) p use
theorem dr_val (h : DN X B Wx e m) : DR X B Wx e (rVal m) := peImp h fun σ H Q ⟨G, W, δ, s, p⟩ =>
  ⟨G, W, δ, s, val_R p fun G1 H1 W1 x v δ1 n1 s1 r1 p1 => p1 G1 H1 [] W1 v Nx.refl s1 (fun _ m => nomatch m) (by simpa using s1.nd) ⟨rfl, r1⟩ (fun _ z => nomatch z)⟩
theorem dr_own (h : DN X B Wx e m) : DR X B Wx e (rOwn m) := peImp h fun σ H Q ⟨G, W, δ, s, p⟩ => by
  refine ⟨G, W, δ, s, ?_⟩
  unfold rOwn at p
  cases e1 : m δ with
  | no => rw [e1] at p; exact p
  | exn c x δ' => rw [e1] at p; exact p
  | ok t δ1 =>
    rw [e1] at p
    exact fun G' H' Wt W' v n' s' off nd rt => p G' H' Wt W' v n' s' off nd rt (fun _ z => nomatch z)
theorem dr_lend {i : Nat} {x : Str} (h : PE X (.Name x pos) (tVar i)) : DR X B Wx (.Name x pos) (rLend i) := peImp h fun σ H Q ⟨G, W, δ, s, p⟩ => by
  unfold rLend at p
  cases e : δ[i]? with
  | none => rw [e] at p; exact p.elim
  | some t =>
    rw [e] at p
    have gen : t ≠ .hole → PoR X.K B G H W σ Wx Q (.ok (t, some i) (δ.set i .hole)) → tVar i σ H Q := fun nh p => by
      obtain ⟨v, W1, W2, ev, r, re, q⟩ := slot_of s e nh
      have nd := q.nodup_iff.mp s.nd
      exact ⟨v, ev, p G H W1 W2 v (Nx.refl.perm (List.Perm.refl _) q.symm) ⟨s.sub, fun a m => s.off a (q.symm.subset (List.mem_append_right _ m)), (List.nodup_append.mp nd).2.1, re, s.bor, fun a m => s.bof a (q.symm.subset (List.mem_append_right _ m))⟩
        (fun a m => s.off a (q.symm.subset (List.mem_append_left _ m))) nd r (fun j z => by cases z; exact ev)⟩
    cases t with
    | hole => exact p.elim
    | exc => exact p.elim
    | bor y => exact p.elim
    | d y => exact p.elim
    | lst ts => exact gen (fun z => nomatch z) p
    | dic ks ts => exact gen (fun z => nomatch z) p
    | ins c ns ts => exact gen (fun z => nomatch z) p
theorem dls_nil : DLs X B Wx [] lNil := paImp pa_nil fun σ H Q ⟨G, W, δ, s, p⟩ => p G H [] W [] Nx.refl s (fun _ m => nomatch m) (by simpa using s.nd) ⟨rfl, rfl⟩ trivial
/-- one held, then the rest -/
theorem cons_L {K : PySem.W.Frag} {G H : Hp} {W : List Addr} {σ : St} {δ : Env} {Q : List V → Hp → Prop} (p : PoL K B G H W σ Wx Q (lCons rm lm δ)) :
    PoR K B G H W σ Wx (fun v H1 => tLs K B Wx lm σ H1 fun vs H2 => Q (v :: vs) H2) (rm δ) := by
  unfold lCons at p
  cases e1 : rm δ with
  | no => rw [e1] at p; exact p
  | exn c x δ' => rw [e1] at p; exact p
  | ok to δ1 =>
    obtain ⟨t, o⟩ := to
    rw [e1] at p
    have p : PoL K B G H W σ Wx Q ((lm δ1).bind fun ts δ2 => .ok ((t, o) :: ts) δ2) := p
    intro G1 H1 Wt W1 v n s1 off nd rt lo
    refine ⟨G1, W1, δ1, s1, ?_⟩
    cases e2 : lm δ1 with
    | no => rw [e2] at p; exact p
    | exn c x δ' =>
      rw [e2] at p
      exact PoE.next p (nx_tail n)
    | ok ts δ2 =>
      rw [e2] at p
      intro G2 H2 Ws W2 vs n2 s2 off2 nd2 rts los
      obtain ⟨a1, a2, a3, a4⟩ := held n nd (repT_in t v Wt rt) off n2 nd2
      refine p G2 H2 (Wt ++ Ws) W2 (v :: vs) a1 s2 (fun a m => ?_) a2 ⟨v, vs, Wt, Ws, rfl, rt.mono n2.sub a3, rts, List.Perm.refl _⟩ ⟨v, vs, rfl, lo, los⟩
      rcases List.mem_append.mp m with z | z
      · exact a4 a z
      · exact off2 a z
theorem dls_cons (h : DR X B Wx e rm) (g : DLs X B Wx es lm) (hs : starEach (e :: es) X.env = (false, eval e X.env) :: starEach es X.env := by rfl) : DLs X B Wx (e :: es) (lCons rm lm) := paImp (pa_cons h g hs) fun σ H Q ⟨G, W, δ, s, p⟩ =>
  ⟨G, W, δ, s, cons_L p⟩
end

/-! ### behind a call -/
/-- the in/out parameters that were lent slots -/
def backs (l : List (T × Option Nat)) : List Nat → List T → List (Nat × T)
  | j :: io, t :: os => match l[j]? with
    | some (_, some i) => (i, t) :: backs l io os
    | _ => backs l io os
  | _, _ => []
def putBack : List (Nat × T) → Env → Env
  | [], δ => δ
  | (i, t) :: r, δ => putBack r (δ.set i t)
theorem lend_at {σ : St} : ∀ {l : List (T × Option Nat)} {vs post : List V} {j i : Nat} {t : T}, LendOk σ l vs → l[j]? = some (t, some i) → σ[i]? = some (some ((vs ++ post).getD j .non))
  | [], _, _, _, _, _, _, e => by cases e
  | (t0, o) :: r, _, post, 0, i, t, ⟨v, vr, e, h, lo⟩, el => by
    subst e
    cases el
    exact h i rfl
  | (t0, o) :: r, _, post, j + 1, i, t, ⟨v, vr, e, h, lo⟩, el => by
    subst e
    have := lend_at (post := post) lo (by simpa using el)
    simpa using this
section
variable {K : PySem.W.Frag} {B : BH} {G H : Hp} {σ : St}
theorem StOk.back {l : List (T × Option Nat)} {vs : List V} (hl : ∀ j t i, l[j]? = some (t, some i) → σ[i]? = some (some (vs.getD j .non))) : ∀ {io : List Nat} {ts : List T} {Wo W : List Addr} {δ : Env}, StOk K B G H W δ σ → RepTs K B G H ts (pick io vs) Wo → (∀ a ∈ Wo, G a = none) → (∀ a ∈ Wo, B a = none) → (Wo ++ W).Nodup →
    ∃ W', (∀ a ∈ W', a ∈ Wo ++ W) ∧ StOk K B G H W' (putBack (backs l io ts) δ) σ
  | [], ts, Wo, W, δ, s, _, _, _, _ => ⟨W, fun _ m => List.mem_append_right _ m, by cases ts <;> exact s⟩
  | j :: io, [], Wo, W, δ, s, _, _, _, _ => ⟨W, fun _ m => List.mem_append_right _ m, s⟩
  | j :: io, t :: ts, Wo, W, δ, s, ⟨v', r', W1, W2, e', rt, rts, q⟩, off, bf, nd => by
    have e' : vs.getD j .non :: pick io vs = v' :: r' := e'
    cases e'
    have i1 : ∀ c ∈ W1, c ∈ Wo := fun c m => q.symm.subset (List.mem_append_left _ m)
    have i2 : ∀ c ∈ W2, c ∈ Wo := fun c m => q.symm.subset (List.mem_append_right _ m)
    have ndo := q.nodup_iff.mp (List.nodup_append.mp nd).1
    have skip : backs l (j :: io) (t :: ts) = backs l io ts → ∃ W', (∀ a ∈ W', a ∈ Wo ++ W) ∧ StOk K B G H W' (putBack (backs l (j :: io) (t :: ts)) δ) σ := fun e => by
      rw [e]
      obtain ⟨W', sub', s'⟩ := StOk.back hl (io := io) s rts (fun a m => off a (i2 a m)) (fun a m => bf a (i2 a m)) (nodup_app (List.nodup_append.mp ndo).2.1 s.nd fun c m m' => disj_of nd c (i2 c m) m')
      exact ⟨W', fun a m => (List.mem_append.mp (sub' a m)).elim (fun z => List.mem_append_left _ (i2 a z)) (List.mem_append_right _), s'⟩
    cases el : l[j]? with
    | none => exact skip (by simp [backs, el])
    | some to =>
      obtain ⟨t0, o⟩ := to
      cases o with
      | none => exact skip (by simp [backs, el])
      | some i =>
        have hi := hl j t0 i el
        have e2 : backs l (j :: io) (t :: ts) = (i, t) :: backs l io ts := by simp [backs, el]
        rw [e2]
        obtain ⟨W3, sub, s3⟩ := s.drop i
        have nd3 : (W1 ++ W3).Nodup := nodup_app (List.nodup_append.mp ndo).1 s3.nd fun c m m' => disj_of nd c (i1 c m) (sub c m')
        have re := RepE.put (t := t) s3.rep hi (.inr ⟨_, rfl, rt⟩)
        have s4 : StOk K B G H (W1 ++ W3) (δ.set i t) σ := ⟨s3.sub, fun a m => (List.mem_append.mp m).elim (fun z => off a (i1 a z)) (s3.off a), nd3, by simpa [set_set] using re, s3.bor, fun a m => (List.mem_append.mp m).elim (fun z => bf a (i1 a z)) (s3.bof a)⟩
        have dj : ∀ c ∈ W2, c ∉ W1 ++ W3 := fun c m m' => (List.mem_append.mp m').elim (fun z => disj_of ndo c z m) fun z => disj_of nd c (i2 c m) (sub c z)
        obtain ⟨W', sub', s'⟩ := StOk.back hl (io := io) s4 rts (fun a m => off a (i2 a m)) (fun a m => bf a (i2 a m)) (nodup_app (List.nodup_append.mp ndo).2.1 nd3 dj)
        refine ⟨W', fun a m => ?_, s'⟩
        rcases List.mem_append.mp (sub' a m) with z | z
        · exact List.mem_append_left _ (i2 a z)
        · rcases List.mem_append.mp z with z | z
          · exact List.mem_append_left _ (i1 a z)
          · exact List.mem_append_right _ (sub a z)
end
/-- what a def's end is to the caller -/
def FR.back (l : List (T × Option Nat)) (io : List Nat) (δ : Env) : FR → R T
  | .ret t os => .ok t (putBack (backs l io os) δ)
  | .exn c x os => .exn c x (putBack (backs l io os) δ)
  | .no => .no
theorem back_post {K : PySem.W.Frag} {B : BH} {G G1 H H1 : Hp} {W W1 Wt : List Addr} {σ : St} {Wx : WX} {δ1 : Env} {Q : VK} {l : List (T × Option Nat)} {io : List Nat} {fr : FR} {vs : List V} (n : Nx G H W G1 H1 (Wt ++ W1)) (s : StOk K B G H W δ σ) (s1 : StOk K B G1 H1 W1 δ1 σ) (nd : (Wt ++ W1).Nodup) (inH : ∀ c ∈ Wt, ∃ o, H1 c = some o)
    (hi : ∀ j t i, l[j]? = some (t, some i) → σ[i]? = some (some (vs.getD j .non))) (p : PoN K B G H W σ Wx Q (fr.back l io δ1)) : FPost K B G1 H1 Wt (pick io vs) Q (WE Wx σ) fr := by
  have dj : ∀ c ∈ W1, c ∉ Wt := fun c m m' => disj_of nd c m' m
  have bw : ∀ a ∈ Wt, B a = none := held_bof s n
  cases fr with
  | no => exact p
  | ret t os =>
    intro G' H' Wa Wo u n2 sb off2 nd2 rt ro
    obtain ⟨k, o, dj2⟩ := n2.aside s1.in_ dj
    have s2 := s1.next n2 sb dj bw
    have bo := bof_next s1.bor n2 bw
    have ndo : (Wo ++ W1).Nodup := nodup_app (List.nodup_append.mp nd2).2.1 s1.nd fun c m m' => dj2 c m' (List.mem_append_right _ m)
    obtain ⟨W', sub, s3⟩ := StOk.back hi s2 ro (fun a m => off2 a (List.mem_append_right _ m)) (fun a m => bo a (List.mem_append_right _ m)) ndo
    have djA : ∀ c ∈ Wa, c ∉ W' := fun c m m' => (List.mem_append.mp (sub c m')).elim (fun z => disj_of nd2 c m z) fun z => dj2 c z (List.mem_append_left _ m)
    refine p G' H' Wa W' u (n.trans ((n2.beside (W2 := W1)).weak fun c m => ?_)) s3 (fun a m => off2 a (List.mem_append_left _ m)) (nodup_app (List.nodup_append.mp nd2).1 s3.nd djA) rt
    rcases List.mem_append.mp m with z | z
    · exact List.mem_append_left _ (List.mem_append_left _ z)
    · rcases List.mem_append.mp (sub c z) with z | z
      · exact List.mem_append_left _ (List.mem_append_right _ z)
      · exact List.mem_append_right _ z
  | exn c x os =>
    intro G' H' Wo cls d n2 sb off2 nd2 ro ex
    obtain ⟨k, o, dj2⟩ := n2.aside s1.in_ dj
    have s2 := s1.next n2 sb dj bw
    have bo := bof_next s1.bor n2 bw
    have ndo : (Wo ++ W1).Nodup := nodup_app nd2 s1.nd fun c m m' => dj2 c m' m
    obtain ⟨W', sub, s3⟩ := StOk.back hi s2 ro off2 bo ndo
    exact p G' H' W' cls d (n.trans ((n2.beside (W2 := W1)).weak sub)) s3 ex

/-! ### the callee runs -/
theorem run_fnD {X : Cx} {k : Nat} {f : Addr} {fd : FuncData} {ps : List Str} {sp : Sp} {Wx : WX} {ds : List Value} {dvs : List V} {pins : List (Addr × Obj)} {σ : St} {H : Hp} {s : Shared} {Q : VK} {us : List Value} {vs : List V} (F : FnOk X.prog X.w X.K X.mg X.base (CX X.prog X.w) k f fd ps sp) (hr : Room k X.A)
    (hb : Binds X.K fd ps ds) (hd : Vals dvs ds) (tk : Takes X Wx) (I : Inv X pins σ H s) (r : Vals vs us) (h : sp (vs ++ dvs) H Q (WE Wx σ)) : wpAny (model X.prog X.w) X.A (call (.ref f) us) (EP X pins σ Q) X.xe s := by
  have r2 : Vals (vs ++ dvs) (us ++ ds) := r.append hd
  have hl : (us ++ ds).length = ps.length := by rw [← r2.length]; exact F.len _ _ _ _ h
  refine wpAny_call (codeAny_mono (F.run X.A X.stack s H ⟨us, []⟩ (us ++ ds) (vs ++ dvs) Q (WE Wx σ) hr I.env0 (hb s us I.kIn hl) r2 h) fun r s' hq => ?_)
  cases r with
  | error e => exact passAt tk σ pins H s e s' I hq
  | ok fl =>
    cases fl with
    | ret u => exact I.after hq
    | next => exact False.elim hq
    | brk => exact False.elim hq
    | cont => exact False.elim hq
/-- a def as the callers know it: its address, its level, its parameters, its defaults -/
structure Fn (P : Program) (w : World) (K : PySem.W.Frag) (mg : Str → Option Value) (base : Heap) (k n : Nat) (io : List Nat) (dfl : List D) (f : Addr) (F : FM) : Prop where
  ok : ∃ fd ps ds dvs, ps.length = n ∧ FnOk P w K mg base (CX P w) k f fd ps (spF K n io F) ∧ Binds K fd ps ds ∧ Vals dvs ds ∧ ∀ G, RepDs K G dfl dvs
  kp : PySem.W.keepIn K (.ref f) = true
theorem Fn.mono {P : Program} {w : World} {K : PySem.W.Frag} {mg : Str → Option Value} {base : Heap} {j k n : Nat} {io : List Nat} {dfl : List D} {f : Addr} {F : FM} (h : Fn P w K mg base j n io dfl f F) (l : j ≤ k) : Fn P w K mg base k n io dfl f F := by
  obtain ⟨⟨fd, ps, ds, dvs, a, b, c, d, e⟩, kp⟩ := h
  exact ⟨⟨fd, ps, ds, dvs, a, b.mono l, c, d, e⟩, kp⟩
def nCallF (n : Nat) (io : List Nat) (dfl : List D) (F : FM) (lm : LM) : EM := fun δ => (lm δ).bind fun l δ1 => if l.length + dfl.length = n then (F (l.map (·.1) ++ dfl.map T.d)).back l io δ1 else .no
theorem repTs_app {K : PySem.W.Frag} {B : BH} {G H : Hp} : ∀ {ts us : List T} {vs ws : List V} {W W2 : List Addr}, RepTs K B G H ts vs W → RepTs K B G H us ws W2 → RepTs K B G H (ts ++ us) (vs ++ ws) (W ++ W2)
  | [], _, _, _, _, _, ⟨e, w⟩, h => by subst e w; exact h
  | t :: ts, us, _, ws, W, W2, ⟨v, r, W3, W4, e, a, b, q⟩, h => by
    subst e
    refine ⟨v, r ++ ws, W3, W4 ++ W2, rfl, a, repTs_app b h, ?_⟩
    rw [← List.append_assoc]
    exact List.Perm.append_right _ q
section
variable {X : Cx} {B : BH} {Wx : WX} {e o : Expr} {es : List Expr} {rm : RM} {lm : LM} {p pos apos : Pos} {k n : Nat} {io : List Nat} {dfl : List D} {f : Addr} {F : FM} {x : Str}
theorem callF_sp {σ : St} {H : Hp} {Q : VK} {dvs : List V} (hd : ∀ G, RepDs X.K G dfl dvs) (h : tN X.K B Wx (nCallF n io dfl F lm) σ H Q) : tLs X.K B Wx lm σ H fun vs H1 => spF X.K n io F (vs ++ dvs) H1 Q (WE Wx σ) := by
  obtain ⟨G, W, δ, s, p⟩ := h
  refine ⟨G, W, δ, s, ?_⟩
  unfold nCallF at p
  cases e1 : lm δ with
  | no => rw [e1] at p; exact p
  | exn c x δ' => rw [e1] at p; exact p
  | ok l δ1 =>
    rw [e1] at p
    have p : PoN X.K B G H W σ Wx Q (if l.length + dfl.length = n then (F (l.map (·.1) ++ dfl.map T.d)).back l io δ1 else .no) := p
    intro G1 H1 Wt W1 vs n1 s1 off nd rt lo
    by_cases hc : l.length + dfl.length = n
    · rw [if_pos hc] at p
      have hlen : (vs ++ dvs).length = n := by
        rw [List.length_append, rt.length, (hd G1).length, List.length_map]
        exact hc
      refine ⟨hlen, B, G1, Wt, l.map (·.1) ++ dfl.map T.d, s1.sub, s1.bor, (List.nodup_append.mp nd).1, off, held_bof s n1, by simpa using repTs_app rt (repTs_of (hd G1)), ?_⟩
      exact back_post n1 s s1 nd (repTs_in _ _ _ rt) (fun j t i e => lend_at lo e) p
    · rw [if_neg hc] at p
      exact p.elim
/-- f(..) -/
theorem dn_call (hf : Fn X.prog X.w X.K X.mg X.base k n io dfl f F) (hr : Room k X.A) (tk : Takes X Wx) (hg : Gl X x) (hm : X.mg x = some (.ref f)) (ha : DLs X B Wx (e :: es) lm)
    (hdb : (x == ("__debug__" : Str)) = false := by decide) (he : starEach (e :: es) X.env = (false, eval e X.env) :: starEach es X.env := by rfl) (hpl : (backTo pos (starEach es X.env)).any (·.1) = false := by rfl) :
    DN X B Wx (.Call (.Name x p) (e :: es) [] pos) (nCallF n io dfl F lm) := by
  obtain ⟨⟨fd, ps, ds, dvs, _, fo, hb, hdv, hd⟩, hk⟩ := hf
  refine ⟨fun pins s σ H Q I h => ?_⟩
  refine wpAny_Call_Name_kw (ld_glob I hg hm ?_ hdb)
  refine PySem.W.callWith_K (h₀ := X.base) I.ok.mod.kin hk (thn (ha.run pos pins s σ H _ I (callF_sp hd h)) fun us s1 ⟨vs, H1, I1, r, q⟩ => ⟨I1.kIn, ?_⟩) he hpl
  exact run_fnD fo hr hb hdv tk I1 r q
theorem dn_call0 (hf : Fn X.prog X.w X.K X.mg X.base k n io dfl f F) (hr : Room k X.A) (tk : Takes X Wx) (hg : Gl X x) (hm : X.mg x = some (.ref f))
    (hdb : (x == ("__debug__" : Str)) = false := by decide) : DN X B Wx (.Call (.Name x p) [] [] pos) (nCallF n io dfl F lNil) := by
  obtain ⟨⟨fd, ps, ds, dvs, _, fo, hb, hdv, hd⟩, hk⟩ := hf
  refine ⟨fun pins s σ H Q I h => ?_⟩
  refine wpAny_Call_Name_kw (ld_glob I hg hm ?_ hdb)
  obtain ⟨G, W, δ, s0, p0⟩ := callF_sp hd h
  exact PySem.W.callWith_K0 I.kIn hk (run_fnD (us := []) (vs := []) fo hr hb hdv tk I .nil (p0 G H [] W [] Nx.refl s0 (fun _ m => nomatch m) (by simpa using s0.nd) ⟨rfl, rfl⟩ trivial))

/-! ### methods -/
/-- what a class's method is -/
structure Md where
  n : Nat
  io : List Nat
  dfl : List D
  F : FM
def insOf? : T → Option (Str × List Str)
  | .d (.ins c ns _) => some (c, ns)
  | .ins c ns _ => some (c, ns)
  | _ => none
def nMeth (m : Str) (disp : Str → Option Md) (rm : RM) (lm : LM) : EM := fun δ => (rm δ).bind fun r δ1 => match insOf? r.1 with
  | some (c, ns) => match disp c with
    | some md => if ns.contains m then .no else (lm δ1).bind fun l δ2 => if (l.length + 1) + md.dfl.length = md.n then (md.F (r.1 :: l.map (·.1) ++ md.dfl.map T.d)).back (r :: l) md.io δ2 else .no
    | none => .no
  | none => .no
/-- each class that disp knows has the method -/
def Disp (X : Cx) (k : Nat) (m : Str) (disp : Str → Option Md) : Prop := ∀ c md, disp c = some md → Cls X.K (He.ga X.K c) ∧ ∃ f, Meth X.K (He.ga X.K c) m f ∧ Fn X.prog X.w X.K X.mg X.base k md.n md.io md.dfl f md.F
theorem ins_at {K : PySem.W.Frag} {B : BH} {G H : Hp} {t : T} {v : V} {W : List Addr} {c : Str} {ns : List Str} (s : Same G H) (h : insOf? t = some (c, ns)) (r : RepT K B G H t v W) : ∃ a dx vs, v = .ref a ∧ H a = some (.ins (He.ga K c) dx (ns.zip vs)) ∧ ns.length = vs.length := by
  unfold insOf? at h
  split at h
  · cases h
    obtain ⟨_, a, dx, vs, e, q, l, _⟩ := r
    exact ⟨a, dx, vs, e, s _ _ q, l⟩
  · cases h
    obtain ⟨a, dx, vs, W1, e, q, l, _⟩ := r
    exact ⟨a, dx, vs, e, q, l⟩
  · cases h
theorem zip_lookup_none {α : Type} {m : Str} : ∀ {ns : List Str} {vs : List α}, ns.contains m = false → (ns.zip vs).lookup m = none
  | [], _, _ => rfl
  | _ :: _, [], _ => rfl
  | n :: ns, v :: vs, h => by
    rw [List.contains_cons, Bool.or_eq_false_iff] at h
    rw [List.zip_cons_cons, List.lookup_cons, h.1]
    exact zip_lookup_none h.2
theorem dn_meth {m : Str} {disp : Str → Option Md} {pl : Sem Bool} (hd : Disp X k m disp) (hr : Room k X.A) (tk : Takes X Wx) (ho : DR X B Wx o rm) (ha : DLs X B Wx (e :: es) lm)
    (hst : starEach (e :: es) X.env = (false, eval e X.env) :: starEach es X.env := by rfl) (hpl : (backTo pos (starEach es X.env)).any (·.1) = false := by rfl)
    (ht : eval (.Call (.Attribute o m apos) (e :: es) [] pos) X.env = (do
      let ov ← eval o X.env
      standAt apos.atName
      let (f, first) ← holding [ov] (getMethod ov m pl)
      callWith pos f first (backTo pos (starEach (e :: es) X.env)) (backToKw pos (keywordEach [] X.env))) := by rfl) :
    DN X B Wx (.Call (.Attribute o m apos) (e :: es) [] pos) (nMeth m disp rm lm) := by
  refine ⟨fun pins s σ H Q I ⟨G, W, δ, s0, p⟩ => ?_⟩
  refine methcall_of ho I ?_ ht
  refine ⟨G, W, δ, s0, ?_⟩
  unfold nMeth at p
  cases e1 : rm δ with
  | no => rw [e1] at p; exact p
  | exn c x δ' => rw [e1] at p; exact p
  | ok r δ1 =>
    rw [e1] at p
    obtain ⟨t, lo⟩ := r
    intro G1 H1 Wt W1 v n1 s1 off nd rt hlo
    have p := p
    simp only [R.bind] at p
    cases e2 : insOf? t with
    | none => simp only [e2] at p; exact p.elim
    | some cn =>
      obtain ⟨c, ns⟩ := cn
      cases e3 : disp c with
      | none => simp only [e2, e3] at p; exact p.elim
      | some md =>
        simp only [e2, e3] at p
        cases e4 : ns.contains m with
        | true => simp only [e4] at p; exact p.elim
        | false =>
          simp only [e4] at p
          have p : PoN X.K B G H W σ Wx Q ((lm δ1).bind fun l δ2 => if (l.length + 1) + md.dfl.length = md.n then (md.F (t :: l.map (·.1) ++ md.dfl.map T.d)).back ((t, lo) :: l) md.io δ2 else .no) := p
          obtain ⟨a, dx, vs, ev, ha1, hl1⟩ := ins_at s1.sub e2 rt
          obtain ⟨cl, g, hm, hf⟩ := hd c md e3
          obtain ⟨⟨fd, ps, ds, dvs, _, fo, hb, hdv, hdd⟩, hk⟩ := hf
          refine ⟨a, _, dx, _, g, ev, ha1, cl, hm, zip_lookup_none e4, fun s2 I2 => ?_⟩
          have pl0 : PoL X.K B G H W σ Wx (fun vs H2 => spF X.K md.n md.io md.F (vs ++ dvs) H2 Q (WE Wx σ)) (lCons rm lm δ) := by
            unfold lCons
            rw [e1]
            show PoL _ _ _ _ _ _ _ _ ((lm δ1).bind fun ts δ2 => .ok ((t, lo) :: ts) δ2)
            cases e5 : lm δ1 with
            | no => rw [e5] at p; exact p
            | exn c x δ' => rw [e5] at p; exact p
            | ok l δ2 =>
              rw [e5] at p
              have p : PoN X.K B G H W σ Wx Q (if (l.length + 1) + md.dfl.length = md.n then (md.F (t :: l.map (·.1) ++ md.dfl.map T.d)).back ((t, lo) :: l) md.io δ2 else .no) := p
              intro G2 H2 Wt2 W2 vs2 n2 s2 off2 nd2 rt2 lo2
              by_cases hc : (l.length + 1) + md.dfl.length = md.n
              · rw [if_pos hc] at p
                have hlen : (vs2 ++ dvs).length = md.n := by
                  rw [List.length_append, rt2.length, (hdd G2).length, List.length_map]
                  exact hc
                refine ⟨hlen, B, G2, Wt2, ((t, lo) :: l).map (·.1) ++ md.dfl.map T.d, s2.sub, s2.bor, (List.nodup_append.mp nd2).1, off2, held_bof s0 n2, by simpa using repTs_app rt2 (repTs_of (hdd G2)), ?_⟩
                exact back_post n2 s0 s2 nd2 (repTs_in _ _ _ rt2) (fun j t i e => lend_at lo2 e) p
              · rw [if_neg hc] at p
                exact p.elim
          have q1 := cons_L pl0
          rw [e1] at q1
          have q2 := q1 G1 H1 Wt W1 v n1 s1 off nd rt hlo
          refine PySem.W.callWith_K (first := [.ref a]) (h₀ := X.base) I2.ok.mod.kin hm.kp (thn (ha.run pos pins s2 σ H1 _ I2 q2) fun us s3 ⟨vs3, H3, I3, r3, q3⟩ => ⟨I3.kIn, ?_⟩) hst hpl
          rw [ev] at q3
          exact run_fnD (us := .ref a :: us) (vs := .ref a :: vs3) fo hr hb hdv tk I3 (.cons rfl r3) q3
theorem dn_meth0 {m : Str} {disp : Str → Option Md} {pl : Sem Bool} (hd : Disp X k m disp) (hr : Room k X.A) (tk : Takes X Wx) (ho : DR X B Wx o rm)
    (ht : eval (.Call (.Attribute o m apos) [] [] pos) X.env = (do
      let ov ← eval o X.env
      standAt apos.atName
      let (f, first) ← holding [ov] (getMethod ov m pl)
      callWith pos f first (backTo pos (starEach [] X.env)) (backToKw pos (keywordEach [] X.env))) := by rfl) :
    DN X B Wx (.Call (.Attribute o m apos) [] [] pos) (nMeth m disp rm lNil) := by
  refine ⟨fun pins s σ H Q I ⟨G, W, δ, s0, p⟩ => ?_⟩
  refine methcall_of ho I ?_ ht
  refine ⟨G, W, δ, s0, ?_⟩
  unfold nMeth at p
  cases e1 : rm δ with
  | no => rw [e1] at p; exact p
  | exn c x δ' => rw [e1] at p; exact p
  | ok r δ1 =>
    rw [e1] at p
    obtain ⟨t, lo⟩ := r
    intro G1 H1 Wt W1 v n1 s1 off nd rt hlo
    have p := p
    simp only [R.bind] at p
    cases e2 : insOf? t with
    | none => simp only [e2] at p; exact p.elim
    | some cn =>
      obtain ⟨c, ns⟩ := cn
      cases e3 : disp c with
      | none => simp only [e2, e3] at p; exact p.elim
      | some md =>
        simp only [e2, e3] at p
        cases e4 : ns.contains m with
        | true => simp only [e4] at p; exact p.elim
        | false =>
          simp only [e4, lNil] at p
          have p : PoN X.K B G H W σ Wx Q (if 0 + 1 + md.dfl.length = md.n then (md.F (t :: md.dfl.map T.d)).back [(t, lo)] md.io δ1 else .no) := p
          obtain ⟨a, dx, vs, ev, ha1, hl1⟩ := ins_at s1.sub e2 rt
          obtain ⟨cl, g, hm, hf⟩ := hd c md e3
          obtain ⟨⟨fd, ps, ds, dvs, _, fo, hb, hdv, hdd⟩, hk⟩ := hf
          refine ⟨a, _, dx, _, g, ev, ha1, cl, hm, zip_lookup_none e4, fun s2 I2 => ?_⟩
          by_cases hc : 0 + 1 + md.dfl.length = md.n
          · rw [if_pos hc] at p
            have rt1 : RepTs X.K B G1 H1 [t] [v] Wt := ⟨v, [], Wt, [], rfl, rt, ⟨rfl, rfl⟩, by simp⟩
            have lo1 : LendOk σ [(t, lo)] [v] := ⟨v, [], rfl, hlo, trivial⟩
            have hsp : spF X.K md.n md.io md.F ([v] ++ dvs) H1 Q (WE Wx σ) := by
              have hlen : ([v] ++ dvs).length = md.n := by
                rw [List.length_append, (hdd G1).length]
                simp only [List.length_cons, List.length_nil]
                omega
              refine ⟨hlen, B, G1, Wt, [t] ++ md.dfl.map T.d, s1.sub, s1.bor, (List.nodup_append.mp nd).1, off, held_bof s0 n1, by simpa using repTs_app rt1 (repTs_of (hdd G1)), ?_⟩
              exact back_post n1 s0 s1 nd (repTs_in _ _ _ rt1) (fun j t i e => lend_at lo1 e) p
            rw [ev] at hsp
            exact PySem.W.callWith_K0 (first := [.ref a]) I2.kIn hm.kp (run_fnD (us := [.ref a]) (vs := [.ref a]) fo hr hb hdv tk I2 (.cons rfl .nil) hsp)
          · rw [if_neg hc] at p
            exact p.elim
end

/-! ### new instances -/
def FR.made (δ : Env) : FR → R T
  | .ret (.d .non) [o] => .ok o δ
  | .exn c x _ => .exn c x δ
  | _ => .no
theorem FR.made_ret {δ : Env} {t : T} {os : List T} : FR.made δ (.ret t os) = .no ∨ (t = .d .non ∧ ∃ o, os = [o] ∧ FR.made δ (.ret t os) = .ok o δ) := by
  unfold FR.made
  split <;> simp_all
def nMake (c : Str) (n : Nat) (dfl : List D) (F : FM) (lm : LM) : EM := fun δ => (lm δ).bind fun l δ1 => if (l.length + 1) + dfl.length = n then
    (F (.ins c [] [] :: l.map (·.1) ++ dfl.map T.d)).made δ1
  else .no
section
variable {X : Cx} {B : BH} {Wx : WX} {e o : Expr} {es : List Expr} {lm : LM} {p pos apos : Pos} {k n : Nat} {dfl : List D} {f : Addr} {F : FM} {x : Str}
theorem make_sp {c : Str} {σ : St} {H : Hp} {Q : VK} {dvs : List V} (hd : ∀ G, RepDs X.K G dfl dvs) (h : tN X.K B Wx (nMake c n dfl F lm) σ H Q) :
    tLs X.K B Wx lm σ H fun vs H1 => ∀ x dx, H1 x = none → H1 dx = none → dx ≠ x → spF X.K n [0] F (.ref x :: (vs ++ dvs)) (upd (upd H1 dx (.own x)) x (.ins (He.ga X.K c) dx [])) (fun v H2 => v = .non ∧ Q (.ref x) H2) (WE Wx σ) := by
  obtain ⟨G, W, δ, s, p⟩ := h
  refine ⟨G, W, δ, s, ?_⟩
  unfold nMake at p
  cases e1 : lm δ with
  | no => rw [e1] at p; exact p
  | exn c x δ' => rw [e1] at p; exact p
  | ok l δ1 =>
    rw [e1] at p
    simp only [R.bind] at p
    intro G1 H1 Wt W1 vs n1 s1 off nd rt lo x dx hx hdx hne
    by_cases hc : (l.length + 1) + dfl.length = n
    · rw [if_pos hc] at p
      have inW : ∀ c ∈ Wt ++ W1, ∃ o, H1 c = some o := fun c m => (List.mem_append.mp m).elim (repTs_in _ _ _ rt c) (s1.in_ c)
      have xW : x ∉ Wt ++ W1 := fun m => by obtain ⟨o, h⟩ := inW x m; rw [hx] at h; cases h
      have k1 : Same H1 (upd (upd H1 dx (.own x)) x (.ins (He.ga X.K c) dx [])) := fun a o e => by
        rw [upd_ne (ne_of_none e hx), upd_ne (ne_of_none e hdx)]
        exact e
      have n2 : Nx G1 H1 (Wt ++ W1) G1 (upd (upd H1 dx (.own x)) x (.ins (He.ga X.K c) dx [])) ((x :: Wt) ++ W1) := ⟨Same.refl _, fun a o e _ => k1 a o e, fun a m => by
        rcases List.mem_cons.mp m with z | z
        · rw [z]; exact .inr hx
        · exact .inl z, fun a o e => .inl e⟩
      have s2 : StOk X.K B G1 (upd (upd H1 dx (.own x)) x (.ins (He.ga X.K c) dx [])) W1 δ1 σ := ⟨s1.sub.trans k1, s1.off, s1.nd, s1.rep.mono (Same.refl _) fun a _ o e => k1 a o e, s1.bor.trans k1, s1.bof⟩
      have hlen : (V.ref x :: (vs ++ dvs)).length = n := by
        rw [List.length_cons, List.length_append, rt.length, (hd G1).length, List.length_map]
        omega
      have ndx : ((x :: Wt) ++ W1).Nodup := List.nodup_cons.mpr ⟨xW, nd⟩
      have bx : ∀ a ∈ x :: Wt, B a = none := fun a m => by
        rcases List.mem_cons.mp m with z | z
        · rw [z]; exact s1.bor.free hx
        · exact held_bof s n1 a z
      refine ⟨hlen, B, G1, x :: Wt, .ins c [] [] :: (l.map (·.1) ++ dfl.map T.d), s2.sub, s2.bor, (List.nodup_append.mp ndx).1, fun a m => ?_, bx, ?_, ?_⟩
      · rcases List.mem_cons.mp m with z | z
        · rw [z]; exact s1.sub.free hx
        · exact off a z
      · refine ⟨.ref x, _, [x], Wt, rfl, ⟨x, dx, [], [], rfl, upd_same, rfl, ⟨rfl, rfl⟩, List.Perm.refl _⟩, ?_, List.Perm.refl _⟩
        have := repTs_app (rt.mono (Same.refl _) fun a m o e => k1 a o e) (repTs_of (B := B) (H := upd (upd H1 dx (.own x)) x (.ins (He.ga X.K c) dx [])) (hd G1))
        simpa using this
      · have dj : ∀ c ∈ W1, c ∉ x :: Wt := fun c m m' => disj_of ndx c m' m
        have p : PoN X.K B G H W σ Wx Q ((F (.ins c [] [] :: (l.map (·.1) ++ dfl.map T.d))).made δ1) := p
        cases e2 : F (.ins c [] [] :: (l.map (·.1) ++ dfl.map T.d)) with
        | no => rw [e2] at p; exact p.elim
        | exn c' x' os =>
          rw [e2] at p
          intro G' H' Wo cls d n3 sb off3 nd3 ro ex
          exact p G' H' W1 cls d ((n1.trans n2).trans ((n3.beside (W2 := W1)).weak fun c m => List.mem_append_right _ m)) (s2.next n3 sb dj bx) ex
        | ret t os =>
          rw [e2] at p
          rcases FR.made_ret (δ := δ1) (t := t) (os := os) with e | ⟨e3, o, e4, e⟩
          · rw [e] at p
            exact p.elim
          · rw [e] at p
            subst e3 e4
            intro G' H' Wa Wo u n3 sb off3 nd3 rtt ro
            obtain ⟨ew, eu⟩ := rtt
            subst ew
            refine ⟨eu, ?_⟩
            obtain ⟨v', r', Wb, Wc, ev, rb, rn, q⟩ := ro
            cases ev
            obtain ⟨_, ec⟩ := rn
            subst ec
            have qb : Wo.Perm Wb := by simpa using q
            obtain ⟨k, o', dj2⟩ := n3.aside s2.in_ dj
            refine p G' H' Wo W1 (.ref x) ((n1.trans n2).trans ?_) (s2.next n3 sb dj bx) (fun a m => off3 a (by simpa using m)) (nodup_app (by simpa using nd3) s2.nd fun c m m' => dj2 c m' (by simpa using m)) (rb.perm qb)
            simpa using n3.beside (W2 := W1)
    · rw [if_neg hc] at p
      exact p.elim
theorem run_makeD {fd : FuncData} {ps : List Str} {sp : Sp} {C : Addr} {ds : List Value} {dvs : List V} {pins : List (Addr × Obj)} {σ : St} {H : Hp} {s : Shared} {Q : VK} {us : List Value} {vs : List V} (M : Mk X.K C f) (F : FnOk X.prog X.w X.K X.mg X.base (CX X.prog X.w) k f fd ps sp) (hr : Room (k + 1) X.A) (hb : Binds X.K fd ps ds) (hd : Vals dvs ds)
    (tk : Takes X Wx) (I : Inv X pins σ H s) (r : Vals vs us)
    (h : ∀ x dx, H x = none → H dx = none → dx ≠ x → sp (.ref x :: (vs ++ dvs)) (upd (upd H dx (.own x)) x (.ins C dx [])) (fun v H2 => v = .non ∧ Q (.ref x) H2) (WE Wx σ)) :
    wpAny (model X.prog X.w) X.A (call (.ref C) us) (EP X pins σ Q) X.xe s := by
  have hq := h (s.heap.objs.size + 1) s.heap.objs.size (I.hok.fresh (Nat.le_succ _)) (I.hok.fresh (Nat.le_refl _)) (Nat.ne_of_lt (Nat.lt_succ_self _))
  have I2 := Inv.made (C := C) I
  have r2 : Vals (V.ref (s.heap.objs.size + 1) :: (vs ++ dvs)) (Value.ref (s.heap.objs.size + 1) :: (us ++ ds)) := .cons rfl (r.append hd)
  have hl : (Value.ref (s.heap.objs.size + 1) :: us ++ ds).length = ps.length := by
    have e := r2.length
    rw [F.len _ _ _ _ hq] at e
    exact e.symm
  refine wpAny_call (make_map (f := f) I.kIn M.makes M.init (beq_iff_eq.mp M.fn) (codeAny_mono (F.run _ X.stack _ _ ⟨Value.ref (s.heap.objs.size + 1) :: us, []⟩ (Value.ref (s.heap.objs.size + 1) :: (us ++ ds)) _ _ (WE Wx σ) (hr.make C us [])
    (I2.env0.make C us []) (hb _ (Value.ref (s.heap.objs.size + 1) :: us) I2.kIn hl) r2 hq) fun r s' hq' => ?_))
  cases r with
  | error e => exact passAt tk σ pins _ _ e s' I2 hq'
  | ok fl =>
    cases fl with
    | ret u =>
      obtain ⟨v, H', I3, rv, ev, q3⟩ := I2.after hq'
      subst ev
      exact ⟨rv, ⟨V.ref (s.heap.objs.size + 1), H', I3, rfl, q3⟩⟩
    | next => exact False.elim hq'
    | brk => exact False.elim hq'
    | cont => exact False.elim hq'
/-- C(..) -/
theorem dn_make (M : Mk X.K (He.ga X.K c) f) (hf : Fn X.prog X.w X.K X.mg X.base k n [0] dfl f F) (hr : Room (k + 1) X.A) (tk : Takes X Wx) (hg : Gl X x) (hm : X.mg x = some (.ref (He.ga X.K c))) (ha : DLs X B Wx (e :: es) lm)
    (hdb : (x == ("__debug__" : Str)) = false := by decide) (he : starEach (e :: es) X.env = (false, eval e X.env) :: starEach es X.env := by rfl) (hpl : (backTo pos (starEach es X.env)).any (·.1) = false := by rfl) :
    DN X B Wx (.Call (.Name x p) (e :: es) [] pos) (nMake c n dfl F lm) := by
  obtain ⟨⟨fd, ps, ds, dvs, _, fo, hb, hdv, hd⟩, hk⟩ := hf
  refine ⟨fun pins s σ H Q I h => ?_⟩
  refine wpAny_Call_Name_kw (ld_glob I hg hm ?_ hdb)
  refine PySem.W.callWith_K (h₀ := X.base) I.ok.mod.kin M.kp (thn (ha.run pos pins s σ H _ I (make_sp hd h)) fun us s1 ⟨vs, H1, I1, r, q⟩ => ⟨I1.kIn, ?_⟩) he hpl
  exact run_makeD M fo hr hb hdv tk I1 r q
end
end L2.DL

namespace L2.DL
open PySem PySem.Spec PyProof.Rows

/-! ### fields -/
def zlk {α : Type} (f : Str) : List Str → List α → Option α
  | [], _ => none
  | _, [] => none
  | g :: r, x :: xs => if f = g then some x else zlk f r xs
theorem zlk_zip {α : Type} {f : Str} : ∀ {ns : List Str} {xs : List α}, (ns.zip xs).lookup f = zlk f ns xs
  | [], xs => by cases xs <;> rfl
  | _ :: _, [] => rfl
  | g :: r, x :: xs => by
    rw [List.zip_cons_cons, List.lookup_cons]
    unfold zlk
    by_cases h : f = g
    · rw [if_pos h, h, beq_self_eq_true]
    · rw [if_neg h, beq_eq_false_iff_ne.mpr h]
      exact zlk_zip
def fldD (cl : Str → Bool) (f : Str) : D → Option D
  | .ins c ns xs => if cl c then zlk f ns xs else none
  | _ => none
def fldT (cl : Str → Bool) (f : Str) : T → Option T
  | .ins c ns ts => if cl c then zlk f ns ts else none
  | .d x => (fldD cl f x).map T.d
  | .bor x => (fldD cl f x).map bord
  | _ => none
def vFld (cl : Str → Bool) (f : Str) (m : VM) : VM := fun δ => (m δ).bind (fldT cl f)
def nFld (cl : Str → Bool) (f : Str) (m : EM) : EM := fun δ => (m δ).val fun x δ1 => R.of ((fldD cl f x).map T.d) δ1
def FldOk (K : PySem.W.Frag) (f : Str) (cl : Str → Bool) : Prop := ∀ c, cl c = true → Cls K (He.ga K c) ∧ NoAttr K (He.ga K c) f
section
variable {K : PySem.W.Frag} {B : BH} {G H : Hp}
theorem zlk_D {f : Str} : ∀ {ns : List Str} {xs : List D} {vs : List V} {y : D}, RepDs K G xs vs → zlk f ns xs = some y → ∃ v, zlk f ns vs = some v ∧ RepD K G y v
  | [], _, _, _, _, e => by cases e
  | _ :: _, [], _, _, _, e => by cases e
  | g :: r, x :: xs, _, y, ⟨v, vr, ev, a, b⟩, e => by
    subst ev
    unfold zlk at e ⊢
    by_cases h : f = g
    · rw [if_pos h] at e ⊢
      cases e
      exact ⟨v, rfl, a⟩
    · rw [if_neg h] at e ⊢
      exact zlk_D b e
theorem zlk_T {f : Str} : ∀ {ns : List Str} {xs : List T} {vs : List V} {W : List Addr} {y : T}, RepTs K B G H xs vs W → zlk f ns xs = some y → ∃ v W1, zlk f ns vs = some v ∧ RepT K B G H y v W1 ∧ ∀ a ∈ W1, a ∈ W
  | [], _, _, _, _, _, e => by cases e
  | _ :: _, [], _, _, _, _, e => by cases e
  | g :: r, x :: xs, _, _, y, ⟨v, vr, W1, W2, ev, a, b, q⟩, e => by
    subst ev
    unfold zlk at e ⊢
    by_cases h : f = g
    · rw [if_pos h] at e ⊢
      cases e
      exact ⟨v, W1, rfl, a, fun c m => q.symm.subset (List.mem_append_left _ m)⟩
    · rw [if_neg h] at e ⊢
      obtain ⟨u, W3, h1, h2, h3⟩ := zlk_T b e
      exact ⟨u, W3, h1, h2, fun c m => q.symm.subset (List.mem_append_right _ (h3 c m))⟩
theorem fldD_at {cl : Str → Bool} {f : Str} {x y : D} {v : V} (ok : FldOk K f cl) (h : fldD cl f x = some y) (r : RepD K G x v) :
    ∃ a C dx fs u, v = .ref a ∧ G a = some (.ins C dx fs) ∧ Cls K C ∧ NoAttr K C f ∧ fs.lookup f = some u ∧ RepD K G y u := by
  unfold fldD at h
  split at h
  · rename_i c ns xs
    split at h
    · rename_i hc
      obtain ⟨a, dx, vs, ev, ea, hl, rs⟩ := r
      obtain ⟨u, hu, ru⟩ := zlk_D rs h
      exact ⟨a, _, dx, _, u, ev, ea, (ok c hc).1, (ok c hc).2, zlk_zip.trans hu, ru⟩
    · cases h
  · cases h
end
section
variable {X : Cx} {B : BH} {Wx : WX} {e : Expr} {f : Str} {pos : Pos} {cl : Str → Bool}
theorem dl_fld {m : VM} (ok : FldOk X.K f cl) (h : DL X B e m) (hb : attributeBase e f X.env (eval e X.env) = eval e X.env := by rfl) : DL X B (.Attribute e f pos) (vFld cl f m) := peImp (pe_fld h hb) fun σ H Q ⟨G, W, δ, t, s, e, q⟩ => by
  unfold vFld at e
  obtain ⟨t0, e0, e1⟩ := Option.bind_eq_some_iff.mp e
  refine ⟨G, W, δ, t0, s, e0, fun v W1 r sub => ?_⟩
  unfold fldT at e1
  split at e1
  · rename_i c ns ts
    split at e1
    · rename_i hc
      obtain ⟨a, dx, vs, W2, ev, ea, hl, rs, qq⟩ := r
      obtain ⟨u, W3, hu, ru, sub3⟩ := zlk_T rs e1
      exact ⟨a, _, dx, _, u, ev, ea, (ok c hc).1, (ok c hc).2, zlk_zip.trans hu, q u W3 ru fun a m => sub a (qq.symm.subset (List.mem_cons_of_mem _ (sub3 a m)))⟩
    · cases e1
  · rename_i x
    cases e2 : fldD cl f x with
    | none => rw [e2] at e1; cases e1
    | some y =>
      rw [e2] at e1
      cases e1
      obtain ⟨a, C, dx, fs, u, ev, ea, k1, k2, k3, ru⟩ := fldD_at ok e2 r.2
      exact ⟨a, C, dx, fs, u, ev, s.sub _ _ ea, k1, k2, k3, q u [] ⟨rfl, ru⟩ fun _ m => nomatch m⟩
  · rename_i x
    cases e2 : fldD cl f x with
    | none => rw [e2] at e1; cases e1
    | some y =>
      rw [e2] at e1
      cases e1
      obtain ⟨a, C, dx, fs, u, ev, ea, k1, k2, k3, ru⟩ := fldD_at ok e2 r.2
      exact ⟨a, C, dx, fs, u, ev, s.bor _ _ ea, k1, k2, k3, q u [] (bord_rep ru) fun _ m => nomatch m⟩
  · cases e1
theorem dn_fld {m : EM} (ok : FldOk X.K f cl) (h : DN X B Wx e m) (hb : attributeBase e f X.env (eval e X.env) = eval e X.env := by rfl) : DN X B Wx (.Attribute e f pos) (nFld cl f m) := peImp (pe_fld h hb) fun σ H Q ⟨G, W, δ, s, p⟩ =>
  ⟨G, W, δ, s, val_N p fun G1 H1 W1 x v δ1 n1 s1 r1 p1 => by
    cases e2 : fldD cl f x with
    | none => rw [e2] at p1; exact p1.elim
    | some y =>
      rw [e2] at p1
      obtain ⟨a, C, dx, fs, u, ev, ea, k1, k2, k3, ru⟩ := fldD_at ok e2 r1
      exact ⟨a, C, dx, fs, u, ev, s1.sub _ _ ea, k1, k2, k3, ret_d s1 p1 ru⟩⟩
end

/-! ### an object in a slot is changed -/
theorem keep_upd {W : List Addr} {H : Hp} {a : Addr} {o : HO} (h : a ∉ W) : Keep W H (upd H a o) := fun b m u e => by
  rw [upd_ne (fun z => h (by rw [← z]; exact m))]
  exact e
section
variable {K : PySem.W.Frag} {B : BH} {G H : Hp} {W Wt W2 W3 W4 : List Addr} {δ : Env} {σ : St} {i : Nat} {t t' : T} {a : Addr} {o : HO}
theorem StOk.poke (s : StOk K B G H W δ σ) (nd : (Wt ++ W).Nodup) (hoff : ∀ c ∈ Wt, G c = none) (hb : ∀ c ∈ Wt, B.hp c = none) (ev : σ[i]? = some (some (.ref a))) (hW : W.Perm ((a :: W3) ++ W2)) (re : RepE K B G H (δ.set i .hole) σ W2)
    (sub : ∀ c ∈ W4, c ∈ Wt ++ W3) (nd4 : W4.Nodup) (rt : RepT K B G (upd H a o) t' (.ref a) (a :: W4)) : StOk K B G (upd H a o) ((a :: W4) ++ W2) (δ.set i t') σ ∧ Nx G H (Wt ++ W) G (upd H a o) ((a :: W4) ++ W2) := by
  have aW : a ∈ W := hW.symm.subset (List.mem_append_left _ List.mem_cons_self)
  have i3 : ∀ c ∈ W3, c ∈ W := fun c m => hW.symm.subset (List.mem_append_left _ (List.mem_cons_of_mem _ m))
  have i2 : ∀ c ∈ W2, c ∈ W := fun c m => hW.symm.subset (List.mem_append_right _ m)
  have ndw := hW.nodup_iff.mp s.nd
  have a2 : a ∉ W2 := disj_of ndw a List.mem_cons_self
  have a3 : a ∉ W3 := (List.nodup_cons.mp (List.nodup_append.mp ndw).1).1
  have ga : G a = none := s.off a aW
  have in4 : ∀ c ∈ W4, c ∈ Wt ++ W := fun c m => (List.mem_append.mp (sub c m)).elim (List.mem_append_left _) fun z => List.mem_append_right _ (i3 c z)
  have inAll : ∀ c ∈ (a :: W4) ++ W2, c ∈ Wt ++ W := fun c m => by
    rcases List.mem_append.mp m with z | z
    · rcases List.mem_cons.mp z with z | z
      · rw [z]; exact List.mem_append_right _ aW
      · exact in4 c z
    · exact List.mem_append_right _ (i2 c z)
  have offAll : ∀ c ∈ Wt ++ W, G c = none := fun c m => (List.mem_append.mp m).elim (hoff c) (s.off c)
  have bAll : ∀ c ∈ Wt ++ W, B.hp c = none := fun c m => (List.mem_append.mp m).elim (hb c) (s.bof c)
  have a4 : a ∉ W4 := fun m => (List.mem_append.mp (sub a m)).elim (fun z => disj_of nd a z aW) a3
  refine ⟨⟨fun c u e => ?_, fun c m => offAll c (inAll c m), ?_, ?_, fun c u e => ?_, fun c m => bAll c (inAll c m)⟩, ⟨Same.refl _, fun c u e m => ?_, fun c m => .inl (inAll c m), fun c u e => .inl e⟩⟩
  · rw [upd_ne (fun z => by rw [z, ga] at e; cases e)]
    exact s.sub c u e
  · refine nodup_app (List.nodup_cons.mpr ⟨a4, nd4⟩) (List.nodup_append.mp ndw).2.1 fun c m m' => ?_
    rcases List.mem_cons.mp m with z | z
    · exact a2 (by rw [← z]; exact m')
    · rcases List.mem_append.mp (sub c z) with z | z
      · exact disj_of nd c z (i2 c m')
      · exact disj_of ndw c (List.mem_cons_of_mem _ z) m'
  · exact RepE.put (re.mono (Same.refl _) (keep_upd a2)) ev (.inr ⟨_, rfl, rt⟩)
  · rw [upd_ne (fun z => by rw [z, s.bof a aW] at e; cases e)]
    exact s.bor c u e
  · rw [upd_ne (fun z => m (by rw [z]; exact List.mem_append_right _ aW))]
    exact e
theorem repTs_put : ∀ {ts : List T} {vs : List V} {W Wt : List Addr} {t : T} {v : V} (j : Nat), RepTs K B G H ts vs W → RepT K B G H t v Wt → ∃ W', (∀ c ∈ W', c ∈ Wt ++ W) ∧ ((Wt ++ W).Nodup → W'.Nodup) ∧ RepTs K B G H (ts.set j t) (vs.set j v) W'
  | [], _, W, Wt, t, v, j, ⟨e, w⟩, r => by
    subst e w
    exact ⟨[], fun c m => (nomatch m), fun _ => List.nodup_nil, ⟨rfl, rfl⟩⟩
  | u :: ts, _, W, Wt, t, v, 0, ⟨w, r, W1, W2, e, a, b, q⟩, rt => by
    subst e
    refine ⟨Wt ++ W2, fun c m => (List.mem_append.mp m).elim (List.mem_append_left _) fun z => List.mem_append_right _ (q.symm.subset (List.mem_append_right _ z)), fun nd => ?_, ⟨v, r, Wt, W2, rfl, rt, b, List.Perm.refl _⟩⟩
    have nd2 := ((List.Perm.append_left Wt q).nodup_iff.mp nd)
    exact nodup_app (List.nodup_append.mp nd2).1 (nodup_tail (nodup_tail nd2)) fun c m m' => disj_of nd2 c m (List.mem_append_right _ m')
  | u :: ts, _, W, Wt, t, v, j + 1, ⟨w, r, W1, W2, e, a, b, q⟩, rt => by
    subst e
    obtain ⟨W5, sub, nd5, r5⟩ := repTs_put j b rt
    refine ⟨W1 ++ W5, fun c m => ?_, fun nd => ?_, ⟨w, r.set j v, W1, W5, rfl, a, r5, List.Perm.refl _⟩⟩
    · rcases List.mem_append.mp m with z | z
      · exact List.mem_append_right _ (q.symm.subset (List.mem_append_left _ z))
      · rcases List.mem_append.mp (sub c z) with z | z
        · exact List.mem_append_left _ z
        · exact List.mem_append_right _ (q.symm.subset (List.mem_append_right _ z))
    · have nd2 := ((List.Perm.append_left Wt q).nodup_iff.mp nd)
      have n12 := nodup_tail nd2
      have nd3 : (Wt ++ W2).Nodup := nodup_app (List.nodup_append.mp nd2).1 (nodup_tail n12) fun c m m' => disj_of nd2 c m (List.mem_append_right _ m')
      refine nodup_app (List.nodup_append.mp n12).1 (nd5 nd3) fun c m m' => ?_
      rcases List.mem_append.mp (sub c m') with z | z
      · exact disj_of nd2 c z (List.mem_append_left _ m)
      · exact disj_of n12 c m z
end
/-- the fields, one put -/
def putNs (f : Str) : List Str → List Str
  | [] => [f]
  | g :: r => if g = f then g :: r else g :: putNs f r
def putXs {α : Type} (f : Str) (x : α) : List Str → List α → List α
  | g :: r, y :: ys => if g = f then x :: ys else y :: putXs f x r ys
  | _, _ => [x]
theorem putF_zip {f : Str} {v : V} : ∀ {ns : List Str} {vs : List V}, ns.length = vs.length → putF f v (ns.zip vs) = (putNs f ns).zip (putXs f v ns vs)
  | [], [], _ => rfl
  | [], _ :: _, h => by cases h
  | _ :: _, [], h => by cases h
  | g :: r, y :: ys, h => by
    rw [List.zip_cons_cons]
    unfold putF putNs putXs
    split
    · rfl
    · rw [putF_zip (by simpa using h)]
      rfl
theorem put_len {α : Type} {f : Str} {x : α} : ∀ {ns : List Str} {xs : List α}, ns.length = xs.length → (putNs f ns).length = (putXs f x ns xs).length
  | [], [], _ => rfl
  | [], _ :: _, h => by cases h
  | _ :: _, [], h => by cases h
  | g :: r, y :: ys, h => by
    unfold putNs putXs
    split
    · simpa using h
    · simpa using put_len (f := f) (x := x) (by simpa using h)
section
variable {K : PySem.W.Frag} {B : BH} {G H : Hp}
theorem repTs_putX {f : Str} : ∀ {ns : List Str} {ts : List T} {vs : List V} {W Wt : List Addr} {t : T} {v : V}, ns.length = vs.length → RepTs K B G H ts vs W → RepT K B G H t v Wt →
    ∃ W', (∀ c ∈ W', c ∈ Wt ++ W) ∧ ((Wt ++ W).Nodup → W'.Nodup) ∧ RepTs K B G H (putXs f t ns ts) (putXs f v ns vs) W'
  | [], [], _, W, Wt, t, v, h, ⟨e, w⟩, r => by
    subst e w
    exact ⟨Wt, fun c m => by simpa using m, fun nd => by simpa using nd, ⟨v, [], Wt, [], rfl, r, ⟨rfl, rfl⟩, by simp⟩⟩
  | [], _ :: _, _, W, Wt, t, v, h, ⟨w, r, W1, W2, e, a, b, q⟩, _ => by subst e; cases h
  | _ :: _, [], _, W, Wt, t, v, h, ⟨e, w⟩, r => by subst e; cases h
  | g :: ns, u :: ts, _, W, Wt, t, v, h, ⟨w, r, W1, W2, e, a, b, q⟩, rt => by
    subst e
    by_cases hg : g = f
    · have e1 : putXs f t (g :: ns) (u :: ts) = t :: ts := by unfold putXs; rw [if_pos hg]
      have e2 : putXs f v (g :: ns) (w :: r) = v :: r := by unfold putXs; rw [if_pos hg]
      rw [e1, e2]
      exact repTs_put (ts := u :: ts) (vs := w :: r) 0 ⟨w, r, W1, W2, rfl, a, b, q⟩ rt
    · have e1 : putXs f t (g :: ns) (u :: ts) = u :: putXs f t ns ts := by
        show (if g = f then _ else _) = _
        rw [if_neg hg]
      have e2 : putXs f v (g :: ns) (w :: r) = w :: putXs f v ns r := by
        show (if g = f then _ else _) = _
        rw [if_neg hg]
      rw [e1, e2]
      obtain ⟨W5, sub, nd5, r5⟩ := repTs_putX (f := f) (ns := ns) (by simpa using h) b rt
      refine ⟨W1 ++ W5, fun c m => ?_, fun nd => ?_, ⟨w, _, W1, W5, rfl, a, r5, List.Perm.refl _⟩⟩
      · rcases List.mem_append.mp m with z | z
        · exact List.mem_append_right _ (q.symm.subset (List.mem_append_left _ z))
        · rcases List.mem_append.mp (sub c z) with z | z
          · exact List.mem_append_left _ z
          · exact List.mem_append_right _ (q.symm.subset (List.mem_append_right _ z))
      · have nd2 := ((List.Perm.append_left Wt q).nodup_iff.mp nd)
        have n12 := nodup_tail nd2
        have nd3 : (Wt ++ W2).Nodup := nodup_app (List.nodup_append.mp nd2).1 (nodup_tail n12) fun c m m' => disj_of nd2 c m (List.mem_append_right _ m')
        refine nodup_app (List.nodup_append.mp n12).1 (nd5 nd3) fun c m m' => ?_
        rcases List.mem_append.mp (sub c m') with z | z
        · exact disj_of nd2 c z (List.mem_append_left _ m)
        · exact disj_of n12 c m z
end
/-- name.f = e -/
def sSetF (cl : Str → Bool) (i : Nat) (f : Str) (m : EM) : SM := fun δ => (m δ).bind fun t δ1 => match δ1[i]? with
  | some (.ins c ns ts) => if cl c = true ∧ ns.length < 1000 then .ok .nx (δ1.set i (.ins c (putNs f ns) (putXs f t ns ts))) else .no
  | _ => .no
/-- name[..] = e, a list -/
def sSetIx (i : Nat) (n : VM) (m : EM) : SM := fun δ => (m δ).bind fun t δ1 => match δ1[i]?, n δ1 with
  | some (.lst ts), some (.d (.int k)) => match ixN ts.length k with
    | some j => .ok .nx (δ1.set i (.lst (ts.set j t)))
    | none => .no
  | _, _ => .no
/-- name.append(e) -/
def nApp (i : Nat) (m : EM) : EM := fun δ => (m δ).bind fun t δ1 => match δ1[i]? with
  | some (.lst ts) => if ts.length < szL then .ok (.d .non) (δ1.set i (.lst (ts ++ [t]))) else .no
  | _ => .no
def nAppL (i : Nat) (m : EM) : EM := fun δ => match δ[i]? with
  | some (.lst _) => nApp i m δ
  | _ => .no
section
variable {X : Cx} {B : BH} {Wx : WX} {Pn : List Nat} {e ie : Expr} {f x : Str} {pos pos' p1 p2 cpos apos : Pos} {cl : Str → Bool} {me : EM} {i : Nat} {n : VM}
theorem ds_setF (ok : FldOk X.K f cl) (hx : PE X (.Name x p1) (tVar i)) (h : DN X B Wx e me) (hs : swapsWith e (some (.Attribute (.Name x p1) f pos')) pos.line X.env = pure false := by rfl) : DS X B Wx Pn (.Assign [.Attribute (.Name x p1) f pos'] e pos) (sSetF cl i f me) := psImp (ps_fld hx h hs) fun D σ H ⟨G, W, δ, s, p⟩ => by
  refine ⟨G, W, δ, s, bind_S p fun G1 H1 Wt W1 t v δ1 n1 s1 off nd rt p1 => ?_⟩
  cases e1 : δ1[i]? with
  | none => simp only [e1] at p1; exact p1.elim
  | some t0 =>
    cases t0 with
    | ins c ns ts =>
      simp only [e1] at p1
      by_cases hc : cl c = true ∧ ns.length < 1000
      · rw [if_pos hc] at p1
        obtain ⟨v0, W5, W2, ev, r, re, q⟩ := slot_of s1 e1 (fun z => nomatch z)
        obtain ⟨a, dx, vs, W3, e0, ea, hl, rs, qq⟩ := r
        subst e0
        have hW : W1.Perm ((a :: W3) ++ W2) := q.trans (List.Perm.append_right _ qq)
        have ndw := hW.nodup_iff.mp s1.nd
        have a3 : a ∉ W3 := (List.nodup_cons.mp (List.nodup_append.mp ndw).1).1
        have aW1 : a ∈ W1 := hW.symm.subset (List.mem_append_left _ List.mem_cons_self)
        have at_ : a ∉ Wt := fun z => disj_of nd a z aW1
        have i3 : ∀ c ∈ W3, c ∈ W1 := fun c m => hW.symm.subset (List.mem_append_left _ (List.mem_cons_of_mem _ m))
        refine ⟨_, ev, a, He.ga X.K c, dx, ns.zip vs, rfl, ea, (ok c hc.1).1, (ok c hc.1).2, by rw [List.length_zip]; omega, ?_⟩
        obtain ⟨W4, sub4, nd4, r4⟩ := repTs_putX (f := f) hl (rs.mono (Same.refl _) (keep_upd (o := .ins (He.ga X.K c) dx (putF f v (ns.zip vs))) a3)) (rt.mono (Same.refl _) (keep_upd (o := .ins (He.ga X.K c) dx (putF f v (ns.zip vs))) at_))
        have nd3 : (Wt ++ W3).Nodup := nodup_app (List.nodup_append.mp nd).1 (List.nodup_cons.mp (List.nodup_append.mp ndw).1).2 fun c m m' => disj_of nd c m (i3 c m')
        obtain ⟨s2, n2⟩ := s1.poke (t' := .ins c (putNs f ns) (putXs f t ns ts)) nd off (held_bof s n1) ev hW re sub4 (nd4 nd3) ⟨a, dx, putXs f v ns vs, W4, rfl, by rw [upd_same, putF_zip hl], put_len hl, r4, List.Perm.refl _⟩
        exact p1 G1 _ _ σ (n1.trans n2) s2 (fun _ _ => rfl) rfl
      · rw [if_neg hc] at p1
        exact p1.elim
    | _ => simp only [e1] at p1; exact p1.elim
theorem ds_setIx (hx : PE X (.Name x p1) (tVar i)) (hi : DL X B ie n) (h : DN X B Wx e me)
    (ha : ∀ v, assign (.Subscript (.Name x p1) ie pos') X.env v = (do
      let ov ← holding [v] (eval (.Name x p1) X.env)
      let iv ← holding [v, ov] (eval ie X.env)
      standAt pos'
      holding [v, ov, iv] (setItem ov iv v)
      release [v, ov, iv] []) := by intro _; rfl)
    (hs : swapsWithSole [.Subscript (.Name x p1) ie pos'] e pos.line X.env = pure false := by rfl) (hw : swappedStores [.Subscript (.Name x p1) ie pos'] e X.env = pure none := by rfl)
    (h1 : (assignEach [.Subscript (.Name x p1) ie pos'] X.env).map (·.2) = [assign (.Subscript (.Name x p1) ie pos') X.env] := by rfl) : DS X B Wx Pn (.Assign [.Subscript (.Name x p1) ie pos'] e pos) (sSetIx i n me) := psImp (ps_asg h (pg_sub hx hi set_list ha) hs hw h1) fun D σ H ⟨G, W, δ, s, p⟩ => by
  refine ⟨G, W, δ, s, bind_S p fun G1 H1 Wt W1 t v δ1 n1 s1 off nd rt p1 => ?_⟩
  cases e1 : δ1[i]? with
  | none => simp only [e1] at p1; exact p1.elim
  | some t0 =>
    cases t0 with
    | lst ts =>
      cases e2 : n δ1 with
      | none => simp only [e1, e2] at p1; exact p1.elim
      | some ti =>
        cases ti with
        | d y =>
          cases y with
          | int k =>
            cases e3 : ixN ts.length k with
            | none => simp only [e1, e2, e3] at p1; exact p1.elim
            | some j =>
              simp only [e1, e2, e3] at p1
              obtain ⟨v0, W5, W2, ev, r, re, q⟩ := slot_of s1 e1 (fun z => nomatch z)
              obtain ⟨a, vs, W3, e0, ea, rs, qq⟩ := r
              subst e0
              have hW : W1.Perm ((a :: W3) ++ W2) := q.trans (List.Perm.append_right _ qq)
              have ndw := hW.nodup_iff.mp s1.nd
              have a3 : a ∉ W3 := (List.nodup_cons.mp (List.nodup_append.mp ndw).1).1
              have aW1 : a ∈ W1 := hW.symm.subset (List.mem_append_left _ List.mem_cons_self)
              have at_ : a ∉ Wt := fun z => disj_of nd a z aW1
              have i3 : ∀ c ∈ W3, c ∈ W1 := fun c m => hW.symm.subset (List.mem_append_left _ (List.mem_cons_of_mem _ m))
              refine ⟨_, ev, G1, W1, δ1, .d (.int k), s1, e2, fun u Wu ⟨_, ru⟩ _ => ⟨a, vs, k, j, rfl, ru, ea, by rw [rs.length]; exact e3, ?_⟩⟩
              obtain ⟨W4, sub4, nd4, r4⟩ := repTs_put j (rs.mono (Same.refl _) (keep_upd (o := .lst (vs.set j v)) a3)) (rt.mono (Same.refl _) (keep_upd (o := .lst (vs.set j v)) at_))
              have nd3 : (Wt ++ W3).Nodup := nodup_app (List.nodup_append.mp nd).1 (List.nodup_cons.mp (List.nodup_append.mp ndw).1).2 fun c m m' => disj_of nd c m (i3 c m')
              obtain ⟨s2, n2⟩ := s1.poke (t' := .lst (ts.set j t)) nd off (held_bof s n1) ev hW re sub4 (nd4 nd3) ⟨a, _, W4, rfl, upd_same, r4, List.Perm.refl _⟩
              exact p1 G1 _ _ σ (n1.trans n2) s2 (fun _ _ => rfl) rfl
          | _ => simp only [e1, e2] at p1; exact p1.elim
        | _ => simp only [e1, e2] at p1; exact p1.elim
    | _ => simp only [e1] at p1; exact p1.elim
theorem dn_app (hx : PE X (.Name x p1) (tVar i)) (h : DN X B Wx e me) (hgo : ∀ {a : Addr} {δ : Env} {σ : St}, True := by intros; trivial)
    (hbase : attributeBase (.Name x p1) "append" X.env (eval (.Name x p1) X.env) = eval (.Name x p1) X.env := by rfl)
    (hfew : ((backTo cpos (starEach [e] X.env)).all (fun x => !x.1) && (backToKw cpos (keywordEach [] X.env)).all (fun x => x.1.isSome)
      && decide (([e] : List Expr).length + ([] : List Keyword).length + (if ([] : List Keyword).isEmpty then 0 else 1) < 30)) = true := by rfl)
    (hline : (apos.endLine == cpos.line) = true := by rfl) (hs : starEach [e] X.env = [(false, eval e X.env)] := by rfl) :
    PE X (.Call (.Attribute (.Name x p1) "append" apos) [e] [] cpos) (tBM X.K "list" rAppend (tVar i) (L2.tCons (tN X.K B Wx me) tNil)) :=
  pe_bm PySem.F.plainAttrs_list PySem.F.slot_list_append PySem.F.type_list_append mt_append hx (pa_cons h pa_nil hs) hbase hfew hline hs rfl
/-- behind the look at the list the value comes -/
theorem ds_app (hx : PE X (.Name x p1) (tVar i)) (h : DN X B Wx e me)
    (hbase : attributeBase (.Name x p1) "append" X.env (eval (.Name x p1) X.env) = eval (.Name x p1) X.env := by rfl)
    (hfew : ((backTo cpos (starEach [e] X.env)).all (fun x => !x.1) && (backToKw cpos (keywordEach [] X.env)).all (fun x => x.1.isSome)
      && decide (([e] : List Expr).length + ([] : List Keyword).length + (if ([] : List Keyword).isEmpty then 0 else 1) < 30)) = true := by rfl)
    (hline : (apos.endLine == cpos.line) = true := by rfl) (hs : starEach [e] X.env = [(false, eval e X.env)] := by rfl) :
    DN X B Wx (.Call (.Attribute (.Name x p1) "append" apos) [e] [] cpos) (nAppL i me) := peImp (dn_app hx h (fun {_ _ _} => trivial) hbase hfew hline hs) fun σ H Q ⟨G, W, δ, s, p⟩ => by
  unfold nAppL at p
  cases e0 : δ[i]? with
  | none => simp only [e0] at p; exact p.elim
  | some tt =>
    cases tt with
    | lst ts0 =>
      simp only [e0] at p
      obtain ⟨v0, W5, W2, ev, r, re, q⟩ := slot_of s e0 (fun z => nomatch z)
      obtain ⟨a, vs0, W3, e00, ea, rs, qq⟩ := r
      subst e00
      refine ⟨_, ev, .inl ⟨rfl, vs0, .inl (.inl ea)⟩, G, W, δ, s, ?_⟩
      unfold nApp at p
      cases e1 : me δ with
      | no => rw [e1] at p; exact p
      | exn c x δ' => rw [e1] at p; exact p
      | ok t δ1 =>
        rw [e1] at p
        simp only [R.bind] at p
        intro G1 H1 Wt W1 v n1 s1 off nd rt
        cases e2 : δ1[i]? with
        | none => simp only [e2] at p; exact p.elim
        | some t0 =>
          cases t0 with
          | lst ts =>
            simp only [e2] at p
            by_cases hz : ts.length < szL
            · rw [if_pos hz] at p
              obtain ⟨v1, W6, W7, ev1, r1, re1, q1⟩ := slot_of s1 e2 (fun z => nomatch z)
              rw [ev] at ev1
              cases ev1
              obtain ⟨a', vs, W8, e00, ea1, rs1, qq1⟩ := r1
              cases e00
              have hW : W1.Perm ((a :: W8) ++ W7) := q1.trans (List.Perm.append_right _ qq1)
              have ndw := hW.nodup_iff.mp s1.nd
              have a3 : a ∉ W8 := (List.nodup_cons.mp (List.nodup_append.mp ndw).1).1
              have aW1 : a ∈ W1 := hW.symm.subset (List.mem_append_left _ List.mem_cons_self)
              have at_ : a ∉ Wt := fun z => disj_of nd a z aW1
              have i3 : ∀ c ∈ W8, c ∈ W1 := fun c m => hW.symm.subset (List.mem_append_left _ (List.mem_cons_of_mem _ m))
              refine ⟨a, vs, v, rfl, rfl, ea1, by rw [rs1.length, szL_eq]; exact hz, ?_⟩
              have r4 : RepTs X.K B G1 (upd H1 a (.lst (vs ++ [v]))) (ts ++ [t]) (vs ++ [v]) (W8 ++ Wt) := repTs_app (rs1.mono (Same.refl _) (keep_upd a3)) ⟨v, [], Wt, [], rfl, rt.mono (Same.refl _) (keep_upd at_), ⟨rfl, rfl⟩, by simp⟩
              have nd3 : (W8 ++ Wt).Nodup := nodup_app (List.nodup_cons.mp (List.nodup_append.mp ndw).1).2 (List.nodup_append.mp nd).1 fun c m m' => disj_of nd c m' (i3 c m)
              obtain ⟨s2, n2⟩ := s1.poke (t' := .lst (ts ++ [t])) nd off (held_bof s n1) ev hW re1 (fun c m => (List.mem_append.mp m).elim (List.mem_append_right _) (List.mem_append_left _)) nd3 ⟨a, _, W8 ++ Wt, rfl, upd_same, r4, List.Perm.refl _⟩
              exact p G1 _ [] _ .non (n1.trans n2) s2 (fun _ m => nomatch m) (by simpa using s2.nd) ⟨rfl, rfl⟩
            · rw [if_neg hz] at p
              exact p.elim
          | _ => simp only [e2] at p; exact p.elim
    | _ => simp only [e0] at p; exact p.elim
end
end L2.DL

namespace L2.DL
open PySem PySem.Spec PyProof.Rows

/-! ### slices -/
abbrev OM := Env → Option (Option Int)
def oNone : OM := fun _ => some none
def oSome (v : VM) : OM := fun δ => match v δ with
  | some (.d (.int i)) => some (some i)
  | _ => none
def tO (K : PySem.W.Frag) (B : BH) (m : OM) : TO := fun σ H Q => ∃ G W δ o, StOk K B G H W δ σ ∧ m δ = some o ∧ Q o H
abbrev DO (X : Cx) (B : BH) (e : Option Expr) (m : OM) : Prop := PO X e (tO X.K B m)
theorem poImp {X : Cx} {e : Option Expr} {t t' : TO} (h : PO X e t) (i : ∀ σ H Q, t' σ H Q → t σ H Q) : PO X e t' := ⟨fun pins s σ H Q I q => h.run pins s σ H Q I (i σ H Q q)⟩
def cutL {α : Type} (xs : List α) (lo hi : Option Int) : List α := (xs.drop (HT.sIx xs.length 0 lo)).take (HT.sIx xs.length xs.length hi - HT.sIx xs.length 0 lo)
def sliceD (x : D) (lo hi : Option Int) : Option T := match x with
  | .str z => if z.length ≤ szL then some (.d (.str (cutS z lo hi))) else none
  | .lst xs => some (.lst ((cutL xs lo hi).map T.d))
  | .scr xs => some (.lst ((cutL xs lo hi).map T.d))
  | .tup xs => if HT.sIx xs.length 0 lo = 0 ∧ HT.sIx xs.length xs.length hi = xs.length then none else some (.d (.tup (cutL xs lo hi)))
  | _ => none
def nSl (m : EM) (lo hi : OM) : EM := fun δ => (m δ).val fun x δ1 => match lo δ1, hi δ1 with
  | some l, some h => R.of (sliceD x l h) δ1
  | _, _ => .no
section
variable {K : PySem.W.Frag} {B : BH} {G H : Hp}
theorem repDs_drop : ∀ (n : Nat) {xs : List D} {vs : List V}, RepDs K G xs vs → RepDs K G (xs.drop n) (vs.drop n)
  | 0, _, _, h => h
  | n + 1, [], _, h => by
    rw [show _ = _ from h]
    rfl
  | n + 1, _ :: _, _, ⟨v, r, e, a, b⟩ => by
    subst e
    exact repDs_drop n b
theorem repDs_take : ∀ (n : Nat) {xs : List D} {vs : List V}, RepDs K G xs vs → RepDs K G (xs.take n) (vs.take n)
  | 0, _, _, h => rfl
  | n + 1, [], _, h => by
    rw [show _ = _ from h]
    rfl
  | n + 1, _ :: _, _, ⟨v, r, e, a, b⟩ => by
    subst e
    exact ⟨v, r.take n, rfl, a, repDs_take n b⟩
theorem repDs_cut {xs : List D} {vs : List V} (h : RepDs K G xs vs) (lo hi : Option Int) : RepDs K G (cutL xs lo hi) (cutV vs lo hi) := by
  unfold cutL cutV
  rw [h.length]
  exact repDs_take _ (repDs_drop _ h)
end
section
variable {X : Cx} {B : BH} {Wx : WX} {e : Expr} {lo hi : Option Expr} {m : EM} {v : VM} {l h : OM} {pos p2 : Pos}
theorem do_none : DO X B none oNone := poImp po_none fun σ H Q ⟨G, W, δ, o, s, e, q⟩ => by cases e; exact q
theorem do_some (hv : DL X B e v) : DO X B (some e) (oSome v) := poImp (po_some hv) fun σ H Q ⟨G, W, δ, o, s, e, q⟩ => by
  unfold oSome at e
  split at e
  · rename_i i h
    cases e
    exact ⟨G, W, δ, _, s, h, fun u W1 ⟨_, r⟩ _ => ⟨i, r, q⟩⟩
  · cases e
theorem sl_all : SlR X (fun x lo hi H Q => rSlS x lo hi H Q ∨ (rSlL X.K x lo hi H Q ∨ rSlT X.K x lo hi H Q)) := sl_str.or (sl_list.or sl_tup)
theorem dn_slice (he : DN X B Wx e m) (hl : DO X B lo l) (hu : DO X B hi h) : DN X B Wx (.Subscript e (.Slice lo hi none p2) pos) (nSl m l h) := peImp (pe_slice sl_all he hl hu) fun σ H Q ⟨G, W, δ, s, p⟩ =>
  ⟨G, W, δ, s, val_N p fun G1 H1 W1 x v δ1 n1 s1 r1 p1 => by
    cases e1 : l δ1 with
    | none => simp only [e1] at p1; exact p1.elim
    | some a =>
      cases e2 : h δ1 with
      | none => simp only [e1, e2] at p1; exact p1.elim
      | some b =>
        simp only [e1, e2] at p1
        refine ⟨G1, W1, δ1, a, s1, e1, G1, W1, δ1, b, s1, e2, ?_⟩
        cases e3 : sliceD x a b with
        | none => rw [e3] at p1; exact p1.elim
        | some t =>
          rw [e3] at p1
          unfold sliceD at e3
          split at e3
          · rename_i z
            split at e3
            · rename_i hz
              cases e3
              exact .inl ⟨z, r1, by rw [szL_eq]; exact hz, ret_d s1 p1 rfl⟩
            · cases e3
          · rename_i xs
            cases e3
            obtain ⟨p, vs, ev, ep, rs⟩ := r1
            refine .inr (.inl ⟨p, vs, ev, .inl (.inl (s1.sub _ _ ep)), fun q hq => ?_⟩)
            obtain ⟨n2, sb, gq, sh⟩ := new_own (o := .lst (cutV vs a b)) s1.sub hq
            exact ret_t s1 p1 n2 sb (fun c m => by rw [List.mem_singleton.mp m]; exact gq) (by simp) (lst_new s1.sub hq (repDs_cut rs a b))
          · rename_i xs
            cases e3
            obtain ⟨p, vs, ev, ep, rs⟩ := r1
            refine .inr (.inl ⟨p, vs, ev, s1.sub.seq ep, fun q hq => ?_⟩)
            obtain ⟨n2, sb, gq, sh⟩ := new_own (o := .lst (cutV vs a b)) s1.sub hq
            exact ret_t s1 p1 n2 sb (fun c m => by rw [List.mem_singleton.mp m]; exact gq) (by simp) (lst_new s1.sub hq (repDs_cut rs a b))
          · rename_i xs
            split at e3
            · cases e3
            · rename_i hw
              cases e3
              obtain ⟨p, vs, ev, ep, rs⟩ := r1
              refine .inr (.inr ⟨p, vs, ev, sqT_mono s1.sub ep, by rw [rs.length]; exact hw, fun q hq => ?_⟩)
              obtain ⟨n2, sb, s3, s4⟩ := new_frz (o := .tup (cutV vs a b)) s1.sub hq
              exact ret_t s1 p1 n2 sb (fun _ m => nomatch m) List.nodup_nil ⟨rfl, q, _, rfl, .inl (.inl upd_same), (repDs_cut rs a b).mono s3⟩
          · cases e3⟩
end

/-! ### built-ins -/
def fAbs : List D → Option T
  | [.int i] => some (.d (.int (if i < 0 then -i else i)))
  | _ => none
def fInt : List D → Option T
  | [.int i] => some (.d (.int i))
  | [.bl k] => some (.d (.int (if k then 1 else 0)))
  | _ => none
def lenD : D → Option Nat
  | .str y => if y.length ≤ szL then some y.length else none
  | .lst xs => some xs.length
  | .scr xs => some xs.length
  | .tup xs => some xs.length
  | _ => none
def fLen : List D → Option T
  | [x] => (lenD x).map fun (n : Nat) => T.d (.int (n : Int))
  | _ => none
def gLen : List D → Option D
  | [x] => (lenD x).map fun (n : Nat) => D.int (n : Int)
  | _ => none
def fMax : List D → Option T
  | [.int i, .int j] => some (.d (.int (if j > i then j else i)))
  | _ => none
def fMin : List D → Option T
  | [.int i, .int j] => some (.d (.int (if j < i then j else i)))
  | _ => none
def fBool : List D → Option T
  | [.int i] => some (.d (.bl (i != 0)))
  | [.bl k] => some (.d (.bl k))
  | _ => none
def fStrI : List D → Option T
  | [.int i] => if i.natAbs.log2 < 1920 then some (.d (.str (toString i))) else none
  | _ => none
def seqD : D → Option (List D)
  | .lst xs => some xs
  | .scr xs => some xs
  | .tup xs => some xs
  | _ => none
def fList : List D → Option T
  | [x] => (seqD x).map fun xs => .lst (xs.map T.d)
  | _ => none
def fTuple : List D → Option T
  | [x] => (seqD x).map fun xs => .d (.tup xs)
  | _ => none
section
variable {K : PySem.W.Frag} {G H : Hp}
theorem rep1 {x : D} {vs : List V} (h : RepDs K G [x] vs) : ∃ v, vs = [v] ∧ RepD K G x v := by
  obtain ⟨v, r, e, a, b⟩ := h
  rw [show r = [] from b] at e
  exact ⟨v, e, a⟩
theorem rep2 {x y : D} {vs : List V} (h : RepDs K G [x, y] vs) : ∃ v u, vs = [v, u] ∧ RepD K G x v ∧ RepD K G y u := by
  obtain ⟨v, r, e, a, b⟩ := h
  obtain ⟨u, er, ru⟩ := rep1 b
  rw [er] at e
  exact ⟨v, u, e, a, ru⟩
theorem seqD_rep {x : D} {v : V} {xs : List D} (h : seqD x = some xs) (r : RepD K G x v) : ∃ p vs, v = .ref p ∧ (SqL K G p vs ∨ SqT K G p vs) ∧ RepDs K G xs vs := by
  cases x <;> simp only [seqD] at h <;> cases h
  · obtain ⟨p, vs, e, q, rs⟩ := r
    exact ⟨p, vs, e, .inr q, rs⟩
  · obtain ⟨p, vs, e, q, rs⟩ := r
    exact ⟨p, vs, e, .inl (.inl (.inl q)), rs⟩
  · obtain ⟨p, vs, e, q, rs⟩ := r
    exact ⟨p, vs, e, .inl q, rs⟩
theorem lenD_rep {x : D} {v : V} {n : Nat} (s : Same G H) (h : lenD x = some n) (r : RepD K G x v) : LenV K v H n := by
  cases x with
  | str y =>
    have h : (if y.length ≤ szL then some y.length else none) = some n := h
    split at h
    · rename_i hy
      cases h
      rw [show v = _ from r]
      exact ⟨by rw [szL_eq]; exact hy, rfl⟩
    · cases h
  | tup xs =>
    cases h
    obtain ⟨p, vs, e, q, rs⟩ := r
    subst e
    exact .inr ⟨vs, sqT_mono s q, rs.length.symm⟩
  | lst xs =>
    cases h
    obtain ⟨p, vs, e, q, rs⟩ := r
    subst e
    exact .inl ⟨vs, .inl (.inl (s _ _ q)), rs.length.symm⟩
  | scr xs =>
    cases h
    obtain ⟨p, vs, e, q, rs⟩ := r
    subst e
    exact .inl ⟨vs, s.seq q, rs.length.symm⟩
  | _ => cases h
theorem cd_abs : CallD K fAbs (fun xs H Q => ∃ i, xs = [.int i] ∧ Q (.int (if i < 0 then -i else i)) H) := by
  intro B G H xs vs t Q sb r h k
  unfold fAbs at h
  split at h
  · rename_i i
    cases h
    obtain ⟨v, e, rv⟩ := rep1 r
    rw [show v = _ from rv] at e
    exact ⟨i, e, same_end sb k rfl⟩
  · cases h
theorem cd_int : CallD K fInt (fun xs H Q => (∃ i, xs = [.int i] ∧ Q (.int i) H) ∨ ∃ k, xs = [.bl k] ∧ Q (.int (if k then 1 else 0)) H) := by
  intro B G H xs vs t Q sb r h k
  unfold fInt at h
  split at h
  · rename_i i
    cases h
    obtain ⟨v, e, rv⟩ := rep1 r
    rw [show v = _ from rv] at e
    exact .inl ⟨i, e, same_end sb k rfl⟩
  · rename_i b
    cases h
    obtain ⟨v, e, rv⟩ := rep1 r
    rw [show v = _ from rv] at e
    exact .inr ⟨b, e, same_end sb k rfl⟩
  · cases h
theorem cd_bool : CallD K fBool (fun xs H Q => (∃ i, xs = [.int i] ∧ Q (.bl (i != 0)) H) ∨ ∃ k, xs = [.bl k] ∧ Q (.bl k) H) := by
  intro B G H xs vs t Q sb r h k
  unfold fBool at h
  split at h
  · rename_i i
    cases h
    obtain ⟨v, e, rv⟩ := rep1 r
    rw [show v = _ from rv] at e
    exact .inl ⟨i, e, same_end sb k rfl⟩
  · rename_i b
    cases h
    obtain ⟨v, e, rv⟩ := rep1 r
    rw [show v = _ from rv] at e
    exact .inr ⟨b, e, same_end sb k rfl⟩
  · cases h
theorem cd_strI : CallD K fStrI (fun xs H Q => ∃ i, xs = [.int i] ∧ i.natAbs.log2 < 1920 ∧ Q (.str (toString i)) H) := by
  intro B G H xs vs t Q sb r h k
  unfold fStrI at h
  split at h
  · rename_i i
    split at h
    · rename_i hi
      cases h
      obtain ⟨v, e, rv⟩ := rep1 r
      rw [show v = _ from rv] at e
      exact ⟨i, e, hi, same_end sb k rfl⟩
    · cases h
  · cases h
theorem cd_len : CallD K fLen (fun xs H Q => ∃ x n, xs = [x] ∧ LenV K x H n ∧ Q (.int n) H) := by
  intro B G H xs vs t Q sb r h k
  unfold fLen at h
  split at h
  · rename_i x
    cases hn : lenD x with
    | none => rw [hn] at h; cases h
    | some n =>
      rw [hn] at h
      cases h
      obtain ⟨v, e, rv⟩ := rep1 r
      exact ⟨v, n, e, lenD_rep sb hn rv, same_end sb k rfl⟩
  · cases h
theorem cl_len : CallL K gLen (fun xs H Q => ∃ x n, xs = [x] ∧ LenV K x H n ∧ Q (.int n) H) := by
  intro H xs vs z Q r h k
  unfold gLen at h
  split at h
  · rename_i x
    cases hn : lenD x with
    | none => rw [hn] at h; cases h
    | some n =>
      rw [hn] at h
      cases h
      obtain ⟨v, e, rv⟩ := rep1 r
      exact ⟨v, n, e, lenD_rep (Same.refl _) hn rv, k _ fun _ => rfl⟩
  · cases h
theorem cd_max : CallD K fMax (fun xs H Q => ∃ i j, xs = [.int i, .int j] ∧ Q (.int (if j > i then j else i)) H) := by
  intro B G H xs vs t Q sb r h k
  unfold fMax at h
  split at h
  · rename_i i j
    cases h
    obtain ⟨v, u, e, rv, ru⟩ := rep2 r
    rw [show v = _ from rv, show u = _ from ru] at e
    exact ⟨i, j, e, same_end sb k rfl⟩
  · cases h
theorem cd_min : CallD K fMin (fun xs H Q => ∃ i j, xs = [.int i, .int j] ∧ Q (.int (if j < i then j else i)) H) := by
  intro B G H xs vs t Q sb r h k
  unfold fMin at h
  split at h
  · rename_i i j
    cases h
    obtain ⟨v, u, e, rv, ru⟩ := rep2 r
    rw [show v = _ from rv, show u = _ from ru] at e
    exact ⟨i, j, e, same_end sb k rfl⟩
  · cases h
theorem SqT.up (s : Same G H) {a : Addr} {xs : List V} (h : SqT K G a xs) : SqT K H a xs := sqT_mono s h
theorem cd_list : CallD K fList (fun xs H Q => ∃ p ys, xs = [.ref p] ∧ (SqL K H p ys ∨ SqT K H p ys) ∧ ∀ l, H l = none → Q (.ref l) (upd H l (.lst ys))) := by
  intro B G H xs vs t Q sb r h k
  unfold fList at h
  split at h
  · rename_i x
    cases hn : seqD x with
    | none => rw [hn] at h; cases h
    | some ys =>
      rw [hn] at h
      cases h
      obtain ⟨v, e, rv⟩ := rep1 r
      obtain ⟨p, us, ev, q, rs⟩ := seqD_rep hn rv
      subst ev
      refine ⟨p, us, e, q.imp (fun z => sb.seq z) (fun z => sqT_mono sb z), fun l hl => ?_⟩
      obtain ⟨n2, sb2, gq, sh⟩ := new_own (o := .lst us) sb hl
      exact k _ _ [l] _ n2 sb2 (fun c m => by rw [List.mem_singleton.mp m]; exact gq) (by simp) (lst_new sb hl rs)
  · cases h
theorem cd_tuple : CallD K fTuple (fun xs H Q => ∃ p ys, xs = [.ref p] ∧ ((SqL K H p ys ∧ ∀ l, H l = none → Q (.ref l) (upd H l (.tup ys))) ∨ (SqT K H p ys ∧ Q (.ref p) H))) := by
  intro B G H xs vs t Q sb r h k
  unfold fTuple at h
  split at h
  · rename_i x
    cases hn : seqD x with
    | none => rw [hn] at h; cases h
    | some ys =>
      rw [hn] at h
      cases h
      obtain ⟨v, e, rv⟩ := rep1 r
      obtain ⟨p, us, ev, q, rs⟩ := seqD_rep hn rv
      subst ev
      refine ⟨p, us, e, ?_⟩
      rcases q with q | q
      · refine .inl ⟨sb.seq q, fun l hl => ?_⟩
        obtain ⟨n2, sb2, s3, s4⟩ := new_frz (o := .tup us) sb hl
        exact k _ _ [] _ n2 sb2 (fun _ m => nomatch m) List.nodup_nil ⟨rfl, l, us, rfl, .inl (.inl upd_same), rs.mono s3⟩
      · exact .inr ⟨sqT_mono sb q, same_end sb k ⟨p, us, rfl, q, rs⟩⟩
  · cases h
end
/-! ### isinstance -/
inductive Tg where
  | b (n : String)
  | c (s : Str)
  deriving DecidableEq
def Tg.v (K : PySem.W.Frag) : Tg → Value
  | .b n => .type n
  | .c s => .ref (He.ga K s)
def tyD : D → Option Tg
  | .non => some (.b "NoneType")
  | .bl _ => some (.b "bool")
  | .int _ => some (.b "int")
  | .str _ => some (.b "str")
  | .tup _ => some (.b "tuple")
  | .lst _ => some (.b "list")
  | .dic _ _ => some (.b "dict")
  | .ins c _ _ => some (.c c)
  | _ => none
def clD : D → Option Tg
  | .ty n => some (.b n)
  | .cls c => some (.c c)
  | _ => none
abbrev ITab := List (Tg × Tg × Bool)
def ITab.get (l : ITab) (a b : Tg) : Option Bool := match l with
  | [] => none
  | (x, y, k) :: r => if x = a ∧ y = b then some k else ITab.get r a b
def fIsi (tb : ITab) : List D → Option T
  | [x, y] => match tyD x, clD y with
    | some a, some b => (tb.get a b).map fun k => .d (.bl k)
    | _, _ => none
  | _ => none
def gIsi (tb : ITab) (xs : List D) : Option D := match xs with
  | [x, y] => match tyD x, clD y with
    | some a, some b => (tb.get a b).map fun k => .bl k
    | _, _ => none
  | _ => none
/-- what isinstance asks of an instance's class -/
def InsTy (K : PySem.W.Frag) (C : Addr) : Prop := Cls K C ∧ PySem.W.findIn K (.ref C) "__class__" = some (some (.builtin "object.__class__")) ∧
  PySem.W.specialIn K (.builtin "object.__class__") "__get__" = some (some (.builtin "getset_descriptor.__get__")) ∧ PySem.W.takesIn K (.builtin "object.__class__") = some true ∧ PySem.W.mroIn K C (.type "object") = some true
def ITab.Ok (K : PySem.W.Frag) (l : ITab) : Prop := ∀ e ∈ l, PySem.W.kitOne K (e.1.v K) (e.2.1.v K) = some e.2.2 ∧ ∀ s, e.1 = .c s → InsTy K (He.ga K s)
theorem ITab.get_mem : ∀ {l : ITab} {a b : Tg} {k : Bool}, l.get a b = some k → (a, b, k) ∈ l
  | [], _, _, _, h => by cases h
  | (x, y, z) :: r, a, b, k, h => by
    unfold ITab.get at h
    split at h
    · rename_i e
      cases h
      rw [e.1, e.2]
      exact List.mem_cons_self
    · exact List.mem_cons_of_mem _ (ITab.get_mem h)
section
variable {K : PySem.W.Frag} {G H : Hp}
theorem tyX_of {x : D} {v : V} {a : Tg} (s : Same G H) (h : tyD x = some a) (hi : ∀ c, a = .c c → InsTy K (He.ga K c)) (r : RepD K G x v) : TyX K H v (a.v K) := by
  cases x <;> simp only [tyD] at h <;> cases h
  · rw [show v = _ from r]; exact .base .non
  · rw [show v = _ from r]; exact .base (.bl _)
  · rw [show v = _ from r]; exact .base (.int _)
  · rw [show v = _ from r]; exact .base (.str _)
  · obtain ⟨p, vs, e, q, rs⟩ := r
    subst e
    rcases sqT_mono s q with (q | ⟨o, q⟩) | q
    · exact .base (.tup q)
    · exact .fTuple q
    · obtain ⟨o, its, n, q1, q2, _⟩ := q
      exact .kTuple q1 q2
  · obtain ⟨p, vs, e, q, rs⟩ := r
    subst e
    exact .base (.lst (s _ _ q))
  · obtain ⟨p, vs, e, q, rs⟩ := r
    subst e
    exact .base (.dK (s _ _ q))
  · obtain ⟨p, dx, vs, e, q, rs⟩ := r
    subst e
    obtain ⟨i1, i2, i3, i4, i5⟩ := hi _ rfl
    exact .base (.ins (s _ _ q) i1 i2 i3 i4 i5)
theorem clsV_of {x : D} {v : V} {a : Tg} (h : clD x = some a) (r : RepD K G x v) : ClsV v (a.v K) := by
  cases x <;> simp only [clD] at h <;> cases h
  · rw [show v = _ from r]; exact .own _
  · rw [show v = _ from r]; exact .ty _
theorem cd_isi {tb : ITab} (ok : tb.Ok K) : CallD K (fIsi tb) (rIsi K) := by
  intro B G H xs vs t Q sb r h k
  unfold fIsi at h
  split at h
  · rename_i x y
    cases e1 : tyD x with
    | none => simp only [e1] at h; cases h
    | some a =>
      cases e2 : clD y with
      | none => simp only [e1, e2] at h; cases h
      | some b =>
        simp only [e1, e2] at h
        cases e3 : tb.get a b with
        | none => rw [e3] at h; cases h
        | some z =>
          rw [e3] at h
          cases h
          obtain ⟨v, u, e, rv, ru⟩ := rep2 r
          obtain ⟨o1, o2⟩ := ok _ (ITab.get_mem e3)
          exact ⟨v, u, _, _, z, e, clsV_of e2 ru, tyX_of sb e1 o2 rv, o1, same_end sb k rfl⟩
  · cases h
theorem cl_isi {tb : ITab} (ok : tb.Ok K) : CallL K (gIsi tb) (rIsi K) := by
  intro H xs vs z Q r h k
  unfold gIsi at h
  split at h
  · rename_i x y
    cases e1 : tyD x with
    | none => simp only [e1] at h; cases h
    | some a =>
      cases e2 : clD y with
      | none => simp only [e1, e2] at h; cases h
      | some b =>
        simp only [e1, e2] at h
        cases e3 : tb.get a b with
        | none => rw [e3] at h; cases h
        | some z' =>
          rw [e3] at h
          cases h
          obtain ⟨v, u, e, rv, ru⟩ := rep2 r
          obtain ⟨o1, o2⟩ := ok _ (ITab.get_mem e3)
          exact ⟨v, u, _, _, z', e, clsV_of e2 ru, tyX_of (Same.refl _) e1 o2 rv, o1, k _ fun _ => rfl⟩
  · cases h
end
/-! ### names of classes and types -/
section
variable {X : Cx} {B : BH} {Wx : WX} {x : Str} {pos : Pos}
theorem dn_ty {n : String} (hg : Gl X x) (hm : X.mg x = none) (hv : bootBuiltins x = some (.type n)) (hn : x ≠ "__name__" := by decide) (hdb : (x == ("__debug__" : Str)) = false := by decide) : DN X B Wx (.Name x pos) (nC (.ty n)) := dn_const (pe_bltn (v := .ty n) hg hm hv rfl hn hdb) fun _ => rfl
theorem dn_cls {c : Str} (hg : Gl X x) (hm : X.mg x = some (.ref (He.ga X.K c))) (hdb : (x == ("__debug__" : Str)) = false := by decide) : DN X B Wx (.Name x pos) (nC (.cls c)) := dn_const (pe_glob (v := .ref (He.ga X.K c)) hg hm rfl hdb) fun _ => rfl
end

/-! ### methods of texts -/
def nTx0 (f : Str → Option D) (m : EM) : EM := fun δ => (m δ).val fun x δ1 => match x with
  | .str z => R.of ((f z).map T.d) δ1
  | _ => .no
def fUpper (z : Str) : Option D := if z.length ≤ 5592405 then some (.str (Txt.upper z)) else none
def fLower (z : Str) : Option D := if z.length ≤ 5592405 then some (.str (Txt.lower z)) else none
section
variable {X : Cx} {B : BH} {Wx : WX} {o : Expr} {m : EM} {apos pos : Pos}
theorem dn_upper (h : DN X B Wx o m) (hbase : attributeBase o "upper" X.env (eval o X.env) = eval o X.env := by rfl) (hline : (apos.endLine == pos.line) = true := by rfl) : DN X B Wx (.Call (.Attribute o "upper" apos) [] [] pos) (nTx0 fUpper m) :=
  peImp (pe_upper h hbase hline) fun σ H Q ⟨G, W, δ, s, p⟩ => ⟨G, W, δ, s, val_N p fun G1 H1 W1 x v δ1 n1 s1 r1 p1 => by
    cases x with
    | str z =>
      have p1 : PoN X.K B G1 H1 W1 σ Wx Q (R.of ((fUpper z).map T.d) δ1) := p1
      unfold fUpper at p1
      split at p1
      · rename_i hz
        exact ⟨⟨z, r1⟩, z, r1, rfl, hz, ret_d s1 p1 rfl⟩
      · exact p1.elim
    | _ => exact p1.elim⟩
end
end L2.DL

namespace L2.DL
open PySem PySem.Spec PyProof.Rows

/-! ### match on a text -/
structure DMc (X : Cx) (B : BH) (Wx : WX) (Pn : List Nat) (cases : List MatchCase) (m : Str → SM) : Prop where
  run : ∀ (pins : List (Addr × Obj)) (s : Shared) (σ : St) (H : Hp) (D : Ends) (z : Str) (t : Tok) (first : Bool), Inv X pins σ H s → tS X.K B Wx Pn (m z) D σ H → wpAny (model X.prog X.w) X.A (matchCases cases X.env (.str z t) first) (SP X pins D) X.xe s
def mcNil : Str → SM := fun _ => sNx
def mcStr (c : Str) (m : SM) (r : Str → SM) : Str → SM := fun z => if z = c then m else r z
def mcAny (m : SM) : Str → SM := fun _ => m
def sMatch (e : EM) (m : Str → SM) : SM := fun δ => (e δ).val fun x δ1 => match x with
  | .str z => m z δ1
  | _ => .no
section
variable {X : Cx} {B : BH} {Wx : WX} {Pn : List Nat} {e : Expr} {me : EM} {body : List Stmt} {m : SM} {r : Str → SM} {rest cases : List MatchCase} {pos p1 p2 : Pos}
theorem dmc_nil : DMc X B Wx Pn [] mcNil := ⟨fun pins s σ H D z t first I ⟨G, W, δ, s0, p⟩ => wpAny_matchCases_nil ⟨σ, H, I, p G H W σ Nx.refl s0 (fun _ _ => rfl) rfl⟩⟩
theorem dmc_str {c : Str} {j : Nat} (hb : DB X B Wx Pn body m) (hr : DMc X B Wx Pn rest r) : DMc X B Wx Pn (⟨.MatchValue (.Constant (.str c) j p1) p2, none, body⟩ :: rest) (mcStr c m r) := ⟨fun pins s σ H D z t first I q => by
  refine wpAny_matchCases_cons (wpAny_matchPattern_Value (thn ((pe_str (X := X) (pos := p1)).run pins s σ H (fun v H' => v = .str c ∧ H' = H) I ⟨rfl, rfl⟩) fun u s1 ⟨v, H1, I1, rv, ev, eh⟩ => ?_))
  subst ev eh
  obtain ⟨t', rfl⟩ := rv
  refine eq_str ?_
  refine wpAny_truthy_bool ?_
  by_cases h : z = c
  · rw [show (z == c) = true from by rw [h, beq_self_eq_true]]
    have q2 : tS X.K B Wx Pn m D σ H1 := by
      have : mcStr c m r z = m := if_pos h
      rw [this] at q
      exact q
    exact assignInOrder_nil (hb.run pins s1 σ H1 D I1 q2)
  · rw [show (z == c) = false from beq_eq_false_iff_ne.mpr h]
    have q2 : tS X.K B Wx Pn (r z) D σ H1 := by
      have : mcStr c m r z = r z := if_neg h
      rw [this] at q
      exact q
    exact hr.run pins s1 σ H1 D z t false I1 q2⟩
theorem dmc_any (hb : DB X B Wx Pn body m) : DMc X B Wx Pn (⟨.MatchAs none none p1, none, body⟩ :: rest) (mcAny m) := ⟨fun pins s σ H D z t first I q => by
  refine wpAny_matchCases_cons (wpAny_matchPattern_Capture ?_)
  exact assignInOrder_nil (hb.run pins s σ H D I q)⟩
theorem ds_match (he : DN X B Wx e me) (hc : DMc X B Wx Pn cases r) : DS X B Wx Pn (.Match e cases pos) (sMatch me r) := ⟨fun pins s σ H D I ⟨G, W, δ, s0, p⟩ => by
  refine wpAny_Match (thn (he.run pins s σ H (fun v H1 => ∃ z, v = .str z ∧ tS X.K B Wx Pn (r z) D σ H1) I ⟨G, W, δ, s0, val_S p fun G1 H1 W1 x v δ1 n1 s1 r1 p1 => ?_⟩) fun u s1 ⟨v, H1, I1, rv, z, ev, q⟩ => ?_)
  · cases x with
    | str z => exact ⟨z, r1, G1, W1, δ1, s1, p1⟩
    | _ => exact p1.elim
  · subst ev
    obtain ⟨t, rfl⟩ := rv
    exact hc.run pins s1 σ H1 D z t true I1 q⟩
end

/-! ### constants of a class -/
def nCVal (y : D) : EM := fun δ => .ok (.d y) δ
open ClX in
structure CV (K : PySem.W.Frag) (c : Str) (f : Str) (y : D) : Prop where
  ok : ∃ mc v u, CRead K (He.ga K c) mc ∧ CVal K (He.ga K c) mc f v u ∧ ∀ G, RepD K G y v
open ClX in
theorem dn_cval {X : Cx} {B : BH} {Wx : WX} {e : Expr} {c f : Str} {y : D} {pos : Pos} (he : PE X e (tC (.ref (He.ga X.K c)))) (k : CV X.K c f y) (hb : attributeBase e f X.env (eval e X.env) = eval e X.env := by rfl) : DN X B Wx (.Attribute e f pos) (nCVal y) :=
  peImp (pe_cval he hb) fun σ H Q ⟨G, W, δ, s, p⟩ => by
    obtain ⟨mc, v, u, h1, h2, h3⟩ := k.ok
    exact ⟨_, mc, v, u, rfl, h1, h2, ret_d s p (h3 G)⟩

/-! ### exceptions: their __init__ stores its parameters -/
/-- self.f = the j-th, .. -/
def stT (K : PySem.W.Frag) : List (Str × Nat) → TS
  | [] => tNext
  | (f, j) :: r => tSeq (tOst K f (tVar 0) (tVar j)) (stT K r)
def xfs (us : List V) : List (Str × Nat) → List (Str × V) → List (Str × V)
  | [], acc => acc
  | (f, j) :: r, acc => xfs us r ((f, us.getD (j - 1) .non) :: acc)
def spX (K : PySem.W.Frag) (c : Str) (n : Nat) (sts : List (Str × Nat)) : Sp := fun vs H Q E => ∃ a us, vs = .ref a :: us ∧ us.length = n ∧ H a = some (exo a (He.ga K c) none) ∧
  ∀ dx, H dx = none → dx ≠ a → Q .non (upd (upd H dx (exd dx (xfs us sts []))) a (exo a (He.ga K c) (some dx)))
theorem upd_over {H : Hp} {a b : Addr} {o u w : HO} (h : a ≠ b) : upd (upd (upd H a o) b u) a w = upd (upd H a w) b u := by
  funext c
  by_cases h1 : c = a
  · subst h1
    rw [upd_same, upd_ne h, upd_same]
  · rw [upd_ne h1]
    by_cases h2 : c = b
    · subst h2
      rw [upd_same, upd_same]
    · rw [upd_ne h2, upd_ne h2, upd_ne h1, upd_ne h1]
theorem stT_run {K : PySem.W.Frag} {c : Str} {σ : St} {D : Ends} {a dx : Addr} {us : List V} {H0 : Hp} (T : OexC K (He.ga K c)) (h0 : σ[0]? = some (some (.ref a))) (hne : dx ≠ a) : ∀ {sts : List (Str × Nat)} {acc : List (Str × V)},
    (∀ p ∈ sts, σ[p.2]? = some (some (us.getD (p.2 - 1) .non)) ∧ PySem.W.findIn K (.ref (He.ga K c)) p.1 = some none) → acc.length + sts.length ≤ 900 →
    D.nx σ (upd (upd H0 dx (exd dx (xfs us sts acc))) a (exo a (He.ga K c) (some dx))) → stT K sts D σ (upd (upd H0 dx (exd dx acc)) a (exo a (He.ga K c) (some dx)))
  | [], acc, _, _, q => q
  | (f, j) :: r, acc, h, hl, q => by
    obtain ⟨h1, h2⟩ := h (f, j) List.mem_cons_self
    have hl' : acc.length + (r.length + 1) ≤ 900 := hl
    refine ⟨_, h1, .ref a, h0, a, He.ga K c, rfl, T, h2, .inr ⟨dx, acc, upd_same, ?_, by omega, ?_⟩⟩
    · rw [upd_ne hne, upd_same]
    · show stT K r D σ _
      rw [upd_over hne]
      refine stT_run T h0 hne (fun p hp => h p (List.mem_cons_of_mem _ hp)) ?_ q
      show (acc.length + 1) + r.length ≤ 900
      omega
theorem xinit_ok {P : Program} {w : World} {K : PySem.W.Frag} {mg : Str → Option Value} {base : Heap} {x qual c : Str} {params : Arguments} {body : List Stmt} {scope : Scope} {dvs : List V} {kws : List (Str × V)} {f : Addr} {fd : FuncData} {N ps : List Str} {k n : Nat} {sts : List (Str × Nat)} {s0 : Str × Nat}
    (F : FunD K x qual params body scope dvs kws f fd) (S : FnScope N ps scope) (hn : ps.length = n + 1) (T : OexC K (He.ga K c)) (hs : ∀ p ∈ s0 :: sts, 1 ≤ p.2 ∧ p.2 ≤ n ∧ PySem.W.findIn K (.ref (He.ga K c)) p.1 = some none) (hl : sts.length ≤ 800)
    (hbody : ∀ (cdv : Value) (A : Around) (outer : List PySem.Env) (s : Shared) (H : Hp) (E : XK), PSs (cxOf (CX P w) P w K mg base N qual scope f cdv A outer s H E) body (stT K (s0 :: sts))) :
    FnOk P w K mg base (CX P w) (k + 1) f fd ps (spX K c n (s0 :: sts)) := by
  refine F.ok S (fun vs H Q E ⟨a, us, e, hl, _⟩ => by rw [e, hn, List.length_cons, hl]) fun cdv A outer s H vs Q E hr h => ?_
  obtain ⟨a, us, e, hlen, ea, q⟩ := h
  subst e
  refine ⟨_, hbody cdv A outer s H E, ?_⟩
  have g0 : (start N (V.ref a :: us))[0]? = some (some (.ref a)) := rfl
  have gj : ∀ p ∈ s0 :: sts, (start N (V.ref a :: us))[p.2]? = some (some (us.getD (p.2 - 1) .non)) := fun p hp => by
    obtain ⟨h1, h2, _⟩ := hs p hp
    obtain ⟨j, hj⟩ : ∃ j, p.2 = j + 1 := ⟨p.2 - 1, by omega⟩
    have hlt : j < us.length := by omega
    rw [hj]
    show ((us.map some) ++ _)[j]? = _
    rw [List.getElem?_append_left (by rw [List.length_map]; exact hlt), List.getElem?_map, List.getElem?_eq_getElem hlt, Nat.add_sub_cancel, getD_get? (List.getElem?_eq_getElem hlt)]
    rfl
  obtain ⟨f0, j0⟩ := s0
  refine ⟨_, gj _ List.mem_cons_self, .ref a, g0, a, _, rfl, T, (hs _ List.mem_cons_self).2.2, .inl ⟨ea, fun dx hdx hne => ?_⟩⟩
  refine stT_run (us := us) (acc := [(f0, us.getD (j0 - 1) .non)]) T g0 hne (fun p hp => ⟨gj p (List.mem_cons_of_mem _ hp), (hs p (List.mem_cons_of_mem _ hp)).2.2⟩) (by simp; omega) ?_
  exact q dx hdx hne

/-! ### raise C(..) -/
structure Xc (P : Program) (w : World) (K : PySem.W.Frag) (mg : Str → Option Value) (base : Heap) (k : Nat) (c : Str) (n : Nat) (dfl : List D) (sts : List (Str × Nat)) : Prop where
  cls : OexC K (He.ga K c)
  ok : ∃ f fd ps ds dvs, PySem.W.findIn K (.ref (He.ga K c)) "__init__" = some (some (.ref f)) ∧ PySem.W.typeIn K (.ref f) = some (.type "function") ∧ FnOk P w K mg base (CX P w) k f fd ps (spX K c n sts) ∧ Binds K fd ps ds ∧ Vals dvs ds ∧ ∀ G, RepDs K G dfl dvs
/-- what is in the dict -/
def xfD (us : List D) : List (Str × Nat) → List (Str × D) → List (Str × D)
  | [], acc => acc
  | (f, j) :: r, acc => xfD us r ((f, us.getD (j - 1) .non) :: acc)
def sRaise (c : Str) (n : Nat) (dfl : List D) (sts : List (Str × Nat)) (ms : AM) : SM := fun δ => (ms δ).vals fun xs δ1 => if (xs ++ dfl).length = n ∧ xs.length ≤ 1000 ∧ (∀ p ∈ sts, p.2 - 1 < n) then
  .exn c (some ((xfD (xs ++ dfl) sts []).map (·.1), (xfD (xs ++ dfl) sts []).map (·.2))) δ1 else .no
theorem repDs_app {K : PySem.W.Frag} {G : Hp} : ∀ {xs ys : List D} {vs us : List V}, RepDs K G xs vs → RepDs K G ys us → RepDs K G (xs ++ ys) (vs ++ us)
  | [], _, _, _, a, b => by rw [show _ = _ from a]; exact b
  | _ :: _, _, _, us, ⟨v, r, e, h1, h2⟩, b => by
    subst e
    exact ⟨v, r ++ us, rfl, h1, repDs_app h2 b⟩
theorem zip_unzip {α β : Type} : ∀ l : List (α × β), (l.map (·.1)).zip (l.map (·.2)) = l
  | [] => rfl
  | (a, b) :: r => by simp [zip_unzip r]
theorem xf_rep {K : PySem.W.Frag} {G : Hp} {us : List V} {xs : List D} (r : RepDs K G xs us) : ∀ {sts : List (Str × Nat)} {acc : List (Str × V)} {accD : List (Str × D)}, (∀ p ∈ sts, p.2 - 1 < xs.length) →
    (∀ f y, accD.lookup f = some y → ∃ v, acc.lookup f = some v ∧ RepD K G y v) → ∀ f y, (xfD xs sts accD).lookup f = some y → ∃ v, (xfs us sts acc).lookup f = some v ∧ RepD K G y v
  | [], acc, accD, _, h, f, y, e => h f y e
  | (g, j) :: sts, acc, accD, hl, h, f, y, e => by
    refine xf_rep r (sts := sts) (acc := (g, us.getD (j - 1) .non) :: acc) (accD := (g, xs.getD (j - 1) .non) :: accD) (fun p hp => hl p (List.mem_cons_of_mem _ hp)) (fun f y e => ?_) f y e
    rw [List.lookup_cons] at e ⊢
    cases hb : f == g with
    | true =>
      rw [hb] at e
      have hlt : j - 1 < xs.length := hl (g, j) List.mem_cons_self
      obtain ⟨v, hv, rv⟩ := repDs_at r (List.getElem?_eq_getElem hlt)
      refine ⟨us.getD (j - 1) .non, rfl, ?_⟩
      rw [getD_get? hv]
      cases e
      rw [getD_get? (List.getElem?_eq_getElem hlt)]
      exact rv
    | false =>
      rw [hb] at e
      exact h f y e
theorem vals_S {K : PySem.W.Frag} {B : BH} {G H : Hp} {W : List Addr} {σ : St} {Wx : WX} {Pn : List Nat} {r : R (List T)} {f : List D → Env → R Fl} {Q : List V → Hp → Prop} {D0 : Ends} (p : PoS K B G H W σ Wx Pn D0 (r.vals f))
    (use : ∀ G' H' W' xs vs δ', Nx G H W G' H' W' → StOk K B G' H' W' δ' σ → RepDs K G' xs vs → PoS K B G' H' W' σ Wx Pn D0 (f xs δ') → Q vs H') : PoA K B G H W σ Wx Q r := by
  cases r with
  | no => exact p
  | exn c x δ' => exact PoX.poE p
  | ok ts δ' =>
    intro G' H' Wt W' vs n s off nd rt
    cases ff : T.full.go ts with
    | false => exact (by simpa [R.vals, ff] using p : PoS K B G H W σ Wx Pn D0 .no).elim
    | true =>
      obtain ⟨G2, n2, s2, rd⟩ := frzs ff s off nd rt
      exact use G2 H' W' _ vs δ' (n.trans n2) s2 rd (PoS.next (n.trans n2) (fun _ _ => rfl) rfl (by simpa [R.vals, ff] using p))
section
variable {X : Cx} {B : BH} {Wx : WX} {Pn : List Nat} {e : Expr} {es : List Expr} {ms : AM} {c x : Str} {k n : Nat} {dfl : List D} {sts : List (Str × Nat)} {p pos pos' : Pos}
theorem ds_raise (hc : X.calm = true) (xc : Xc X.prog X.w X.K X.mg X.base k c n dfl sts) (hr : Room (k + 1) X.A) (tk : Takes X Wx) (hg : Gl X x) (hm : X.mg x = some (.ref (He.ga X.K c))) (ha : DA X B Wx (e :: es) ms)
    (hdb : (x == ("__debug__" : Str)) = false := by decide) (he : starEach (e :: es) X.env = (false, eval e X.env) :: starEach es X.env := by rfl) (hpl : (backTo pos (starEach es X.env)).any (·.1) = false := by rfl) :
    DS X B Wx Pn (.Raise (some (.Call (.Name x p) (e :: es) [] pos)) none pos') (sRaise c n dfl sts ms) := by
  obtain ⟨f, fd, ps, ds, dvs, hi, ht, F, hb, hd, hdD⟩ := xc.ok
  have hx : Passes (CX X.prog X.w) X (fun _ _ _ => False) := passes_call tk (fun _ _ _ _ z => z.elim)
  refine psImp (ps_raise hc tk (pmk_oex xc.cls hi ht F hr hb hd hx hg hm ha hdb he hpl)) fun D σ H ⟨G, W, δ, s, p⟩ => ?_
  refine ⟨G, W, δ, s, vals_S p fun G1 H1 W1 xs vs δ1 n1 s1 r1 p1 => ?_⟩
  by_cases hcnd : (xs ++ dfl).length = n ∧ xs.length ≤ 1000 ∧ (∀ p ∈ sts, p.2 - 1 < n)
  · rw [if_pos hcnd] at p1
    obtain ⟨hln, hl, hlt⟩ := hcnd
    have rr : RepDs X.K G1 (xs ++ dfl) (vs ++ dvs) := repDs_app r1 (hdD G1)
    refine ⟨by rw [r1.length]; exact hl, fun a ha => ⟨a, vs ++ dvs, rfl, by rw [rr.length]; exact hln, upd_same, fun dx hdx hne => ⟨rfl, dx, xfs (vs ++ dvs) sts [], upd_same, ?_, ?_, ?_⟩⟩⟩
    · rw [upd_ne hne, upd_same]
    · rw [upd_ne hne] at hdx
      exact hdx
    · have hdx1 : H1 dx = none := by rw [upd_ne hne] at hdx; exact hdx
      have e : upd (del (upd (upd (upd H1 a (exo a (He.ga X.K c) none)) dx (exd dx (xfs (vs ++ dvs) sts []))) a (exo a (He.ga X.K c) (some dx))) a) dx (.xd (xfs (vs ++ dvs) sts [])) = upd H1 dx (.xd (xfs (vs ++ dvs) sts [])) := by
        funext b
        by_cases h1 : b = dx
        · subst h1
          rw [upd_same, upd_same]
        · rw [upd_ne h1, upd_ne h1]
          by_cases h2 : b = a
          · subst h2
            rw [del_same, ha]
          · rw [del_ne h2, upd_ne h2, upd_ne h1, upd_ne h2]
      rw [e]
      obtain ⟨n2, sb, s3, s4⟩ := new_frz (o := .xd (xfs (vs ++ dvs) sts [])) s1.sub hdx1
      have n2' : Nx G1 H1 W1 (upd G1 dx (.xd (xfs (vs ++ dvs) sts []))) (upd H1 dx (.xd (xfs (vs ++ dvs) sts []))) W1 := by simpa using n2.beside (W2 := W1)
      have s2 := s1.next n2 sb (fun _ _ m => nomatch m) (fun _ m => nomatch m)
      refine p1 _ _ W1 σ _ (some dx) n2' s2 (fun _ _ => rfl) rfl ⟨rfl, dx, _, rfl, upd_same, fun f y e => ?_⟩
      rw [zip_unzip] at e
      obtain ⟨v, h1, h2⟩ := xf_rep rr (acc := []) (accD := []) (fun p hp => by rw [hln]; exact hlt p hp) (fun f y e => by cases e) f y e
      exact ⟨v, h1, h2.mono s3⟩
  · rw [if_neg hcnd] at p1
    exact p1.elim
end

/-! ### try: .. except C as n: .. -/
mutual
/-- nothing of it depends on what is lent -/
def T.plain : T → Bool
  | .exc => false
  | .bor _ => false
  | .lst ts => T.plains ts
  | .dic _ ts => T.plains ts
  | .ins _ _ ts => T.plains ts
  | _ => true
def T.plains : List T → Bool
  | [] => true
  | t :: r => t.plain && T.plains r
end
mutual
theorem repT_plain {K : PySem.W.Frag} {B B' : BH} {G H : Hp} : ∀ (t : T) (v : V) (W : List Addr), t.plain = true → RepT K B G H t v W → RepT K B' G H t v W
  | .hole, _, _, _, h => h
  | .exc, _, _, n, h => by simp [T.plain] at n
  | .d x, v, W, _, h => h
  | .bor x, v, W, n, h => by simp [T.plain] at n
  | .lst ts, v, W, n, ⟨a, vs, W1, e, h, r, q⟩ => ⟨a, vs, W1, e, h, repTs_plain ts vs W1 (by simpa [T.plain] using n) r, q⟩
  | .dic ks ts, v, W, n, ⟨a, vs, W1, e, h, l, r, q⟩ => ⟨a, vs, W1, e, h, l, repTs_plain ts vs W1 (by simpa [T.plain] using n) r, q⟩
  | .ins c ns ts, v, W, n, ⟨a, dx, vs, W1, e, h, l, r, q⟩ => ⟨a, dx, vs, W1, e, h, l, repTs_plain ts vs W1 (by simpa [T.plain] using n) r, q⟩
theorem repTs_plain {K : PySem.W.Frag} {B B' : BH} {G H : Hp} : ∀ (ts : List T) (vs : List V) (W : List Addr), T.plains ts = true → RepTs K B G H ts vs W → RepTs K B' G H ts vs W
  | [], _, _, _, h => h
  | t :: ts, _, W, n, ⟨v, r, W1, W2, e, a, b, q⟩ => by
    have n' : t.plain = true ∧ T.plains ts = true := by simpa [T.plains] using n
    exact ⟨v, r, W1, W2, e, repT_plain t v W1 n'.1 a, repTs_plain ts r W2 n'.2 b, q⟩
end
theorem repE_plain {K : PySem.W.Frag} {B B' : BH} {G H : Hp} : ∀ {δ : Env} {σ : St} {W : List Addr}, T.plains δ = true → RepE K B G H δ σ W → RepE K B' G H δ σ W
  | [], _, _, _, h => h
  | t :: δ, _, _, n, ⟨o, r, W1, W2, e, a, b, q⟩ => by
    have n' : t.plain = true ∧ T.plains δ = true := by simpa [T.plains] using n
    refine ⟨o, r, W1, W2, e, ?_, repE_plain n'.2 b, q⟩
    rcases a with a | ⟨v, ev, a⟩
    · exact .inl a
    · exact .inr ⟨v, ev, repT_plain t v W1 n'.1 a⟩
theorem plains_set : ∀ (l : List T) (j : Nat), T.plains l = true → T.plains (l.set j .hole) = true
  | [], _, h => h
  | t :: l, 0, h => by
    have h' : t.plain = true ∧ T.plains l = true := by simpa [T.plains] using h
    simp [T.plains, T.plain, h'.2]
  | t :: l, j + 1, h => by
    have h' : t.plain = true ∧ T.plains l = true := by simpa [T.plains] using h
    simp [T.plains, h'.1, plains_set l j h'.2]
/-- a slot that nothing is known of, emptied -/
theorem repE_none {K : PySem.W.Frag} {B : BH} {G H : Hp} : ∀ {δ : Env} {σ : St} {W : List Addr} {j : Nat}, RepE K B G H (δ.set j .hole) σ W → RepE K B G H (δ.set j .hole) (σ.set j none) W
  | [], σ, W, j, h => by
    obtain ⟨e1, e2⟩ := h
    subst e1 e2
    exact ⟨rfl, rfl⟩
  | t :: δ, σ, W, 0, h => by
    obtain ⟨o, r, Wa, Wb, e, a, b, q⟩ := h
    subst e
    have wa : Wa = [] := by
      rcases a with ⟨_, w⟩ | ⟨v, _, w⟩
      · exact w
      · exact w
    exact ⟨none, r, Wa, Wb, rfl, .inl ⟨rfl, wa⟩, b, q⟩
  | t :: δ, σ, W, j + 1, h => by
    obtain ⟨o, r, Wa, Wb, e, a, b, q⟩ := h
    subst e
    exact ⟨o, r.set j none, Wa, Wb, rfl, a, repE_none b, q⟩
/-- the suite's knowledge of the caught exception -/
structure Caught (K : PySem.W.Frag) (B : BH) (a : Addr) (oe : Obj) (cls : Value) (d : Option Addr) (c : Str) (x : Exn) : Prop where
  ex : B.exc = a
  cl : cls = .ref (He.ga K c)
  z : Zc cls d oe
  fl : ∃ vs, oe.data = .fields vs
  dd : match x with
    | none => d = none
    | some (ns, xs) => ∃ dx vfs, d = some dx ∧ B.hp dx = some (.xd vfs) ∧ ∀ f y, (ns.zip xs).lookup f = some y → ∃ v, vfs.lookup f = some v ∧ RepD K B.hp y v
/-- behind the suite the name is gone -/
def unset (i : Nat) : R Fl → R Fl
  | .ok (.rt t) δ => if T.plains (δ.set i .hole) = true ∧ t.plain = true then .ok (.rt t) (δ.set i .hole) else .no
  | .ok f δ => if T.plains (δ.set i .hole) = true then .ok f (δ.set i .hole) else .no
  | _ => .no
def sTryAs (m : SM) (cl : Str → Option Bool) (i : Nat) (su : Str → Exn → SM) : SM := fun δ => match m δ with
  | .exn c x δ1 => match cl c with
    | some true => if T.plains (δ1.set i .hole) = true ∧ i < δ1.length then unset i (su c x (δ1.set i .exc)) else .no
    | some false => .exn c x δ1
    | none => .no
  | r => r
theorem same_orElse {G B H : Hp} (a : Same G H) (b : Same B H) : Same (fun c => (G c).orElse fun _ => B c) H := fun c o e => by
  cases h : G c with
  | none =>
    have e : (G c).orElse (fun _ => B c) = some o := e
    rw [h] at e
    exact b c o e
  | some u =>
    have e : (G c).orElse (fun _ => B c) = some o := e
    rw [h] at e
    cases e
    exact a c _ h
theorem sub_orElseL {G B : Hp} : Same G (fun c => (G c).orElse fun _ => B c) := fun c o e => by
  show (G c).orElse (fun _ => B c) = some o
  rw [e]
  rfl
theorem sub_orElseR {G B H : Hp} (a : Same G H) (b : Same B H) : Same B (fun c => (G c).orElse fun _ => B c) := fun c o e => by
  show (G c).orElse (fun _ => B c) = some o
  cases h : G c with
  | none => exact e
  | some u =>
    have := a c u h
    rw [b c o e] at this
    cases this
    rfl
section
variable {X : Cx} {B : BH} {Wx : WX} {Pn : List Nat} {x n : Str} {c : Value} {i : Nat} {body suite : List Stmt} {b₀ : Stmt} {np pos pos' : Pos} {m : SM} {cl : Str → Option Bool} {su : Str → Exn → SM}
theorem ds_try_as (hs : X.stack = X.env :: X.outer) (hf : X.env.frame = some X.env.locals) (hN : X.N.Nodup) (hi : X.N[i]? = some n) (hln : X.env.kindOf n = some .local) (hc : Names X x c) (tk : Takes X Wx) (hp : i ∉ Pn)
    (hcl : ∀ c0 b, cl c0 = some b → PySem.W.exmOne X.K (.ref (He.ga X.K c0)) c = some b)
    (hb : ∀ (W : WX) (pn : List (Addr × Obj)) (xe : Value → Shared → Prop), Takes (X.tr pn xe) W → PassesOwn (model X.prog X.w) X.A X.env xe → DB (X.tr pn xe) B W Pn body m)
    (hsu : ∀ (a : Addr) (oe : Obj) (cls : Value) (d : Option Addr) (pn : List (Addr × Obj)) (B' : BH) (c0 : Str) (x0 : Exn), cl c0 = some true → Caught X.K B' a oe cls d c0 x0 → DB (X.suite a ((a, oe) :: pn)) B' (fun _ _ _ _ => False) Pn (b₀ :: suite) (su c0 x0)) :
    DS X B Wx Pn (.Try body [.ExceptHandler (some (.Name x np)) (some n) (b₀ :: suite) pos'] [] [] pos) (sTryAs m cl i su) := by
  refine psImp (ps_try_as (tb := fun W => tS X.K B W Pn m) (ts := fun a cls d D σ H => ∃ (B' : BH) (c0 : Str) (x0 : Exn), cl c0 = some true ∧ (∀ oe, Zc cls d oe → (∃ vs, oe.data = .fields vs) → Caught X.K B' a oe cls d c0 x0) ∧ tS X.K B' (fun _ _ _ _ => False) Pn (su c0 x0) D σ H)
    hs hf hN hi hln hc tk (fun W pn xe h1 h2 => hb W pn xe h1 h2) (fun a oe cls d pn hz hfl => ⟨fun pins s σ H D I ⟨B', c0, x0, h1, h2, h3⟩ => (hsu a oe cls d pn B' c0 x0 h1 (h2 oe hz hfl)).run pins s σ H D I h3⟩)) fun D σ H ⟨G, W, δ, s, p⟩ => ?_
  refine ⟨G, W, δ, s, ?_⟩
  unfold sTryAs at p
  cases e : m δ with
  | no => rw [e] at p; exact p
  | ok f δ1 =>
    rw [e] at p
    cases f <;> exact p
  | exn c0 x0 δ1 =>
    rw [e] at p
    intro G1 H1 W1 σ1 cls d n1 s1 pn1 hl1 ex
    obtain ⟨ec, ex⟩ := ex
    cases e1 : cl c0 with
    | none => simp only [e1] at p; exact p.elim
    | some b =>
      refine ⟨b, by rw [ec]; exact hcl c0 b e1, fun hbt a ha => ?_, fun hbf => ?_⟩
      · subst hbt
        simp only [e1] at p
        by_cases hno : T.plains (δ1.set i .hole) = true ∧ i < δ1.length
        · rw [if_pos hno] at p
          have sB := same_orElse s1.sub s1.bor
          let B' : BH := ⟨fun c => (G1 c).orElse fun _ => B.hp c, a⟩
          refine ⟨B', c0, x0, e1, fun oe hz hfl => ⟨rfl, ec, hz, hfl, ?_⟩, ?_⟩
          · cases x0 with
            | none => exact ex
            | some nx =>
              obtain ⟨ns, xs⟩ := nx
              obtain ⟨dx, vfs, h1, h2, h3⟩ := ex
              refine ⟨dx, vfs, h1, sub_orElseL dx _ h2, fun f y e => ?_⟩
              obtain ⟨v, k1, k2⟩ := h3 f y e
              exact ⟨v, k1, k2.mono sub_orElseL⟩
          · obtain ⟨W2, sub2, s2⟩ := s1.drop i
            have bo2 : ∀ c ∈ W2, B'.hp c = none := fun c m => by
              show (G1 c).orElse (fun _ => B.hp c) = none
              rw [s2.off c m]
              exact s2.bof c m
            have s3 : StOk X.K B' G1 H1 W2 (δ1.set i .exc) (σ1.set i (some (.ref a))) := by
              refine ⟨s2.sub, s2.off, s2.nd, ?_, sB, bo2⟩
              have re := RepE.store (W1 := []) (t := .exc) (v := .ref a) (i := i) (repE_plain (B' := B') hno.1 s2.rep) hno.2 ⟨rfl, rfl⟩
              simpa using re
            refine ⟨G1, W2, δ1.set i .exc, s3, ?_⟩
            have bB : ∀ {G' H' : Hp} {W' : List Addr}, (∀ c ∈ W', B'.hp c = none) → ∀ c ∈ W', B.hp c = none := fun h c m => by
              have this : (G1 c).orElse (fun _ => B.hp c) = none := h c m
              cases hg : G1 c with
              | none => rw [hg] at this; exact this
              | some o => rw [hg] at this; cases this
            have back : ∀ {G' H' : Hp} {W' : List Addr} {σ' : St} {δ' : Env}, StOk X.K B' G' H' W' δ' σ' → T.plains (δ'.set i .hole) = true → ∃ W3, (∀ c ∈ W3, c ∈ W') ∧ StOk X.K B G' H' W3 (δ'.set i .hole) (σ'.set i none) := fun {G' H' W' σ' δ'} s' hn => by
              obtain ⟨W3, sub3, s4⟩ := s'.drop i
              exact ⟨W3, sub3, s4.sub, s4.off, s4.nd, repE_none (repE_plain hn s4.rep), fun c o e => s4.bor c o (sub_orElseR s1.sub s1.bor c o e), bB (G' := G') (H' := H') s4.bof⟩
            have n2 : Nx G H W G1 H1 W2 := n1.weak sub2
            have pnI : ∀ {σ' : St}, (∀ j ∈ Pn, σ'[j]? = (σ1.set i (some (.ref a)))[j]?) → ∀ j ∈ Pn, (σ'.set i none)[j]? = σ[j]? := fun h j mj => by
              have ne : j ≠ i := fun z => hp (by rw [← z]; exact mj)
              rw [set_get_ne ne, h j mj, set_get_ne ne]
              exact pn1 j mj
            cases es : su c0 x0 (δ1.set i .exc) with
            | no => rw [es] at p; exact p.elim
            | exn c' x' δ' => rw [es] at p; exact p.elim
            | ok f δ2 =>
              rw [es] at p
              cases f with
              | nx =>
                intro G' H' W' σ' n' s' pn' hl'
                simp only [unset] at p
                by_cases hq : T.plains (δ2.set i .hole) = true
                · rw [if_pos hq] at p
                  obtain ⟨W3, sub3, s4⟩ := back s' hq
                  exact p G' H' W3 _ (n2.trans (n'.weak sub3)) s4 (pnI pn') (by rw [List.length_set, hl', List.length_set, hl1])
                · rw [if_neg hq] at p; exact p.elim
              | bk =>
                intro G' H' W' σ' n' s' pn' hl'
                simp only [unset] at p
                by_cases hq : T.plains (δ2.set i .hole) = true
                · rw [if_pos hq] at p
                  obtain ⟨W3, sub3, s4⟩ := back s' hq
                  exact p G' H' W3 _ (n2.trans (n'.weak sub3)) s4 (pnI pn') (by rw [List.length_set, hl', List.length_set, hl1])
                · rw [if_neg hq] at p; exact p.elim
              | ct =>
                intro G' H' W' σ' n' s' pn' hl'
                simp only [unset] at p
                by_cases hq : T.plains (δ2.set i .hole) = true
                · rw [if_pos hq] at p
                  obtain ⟨W3, sub3, s4⟩ := back s' hq
                  exact p G' H' W3 _ (n2.trans (n'.weak sub3)) s4 (pnI pn') (by rw [List.length_set, hl', List.length_set, hl1])
                · rw [if_neg hq] at p; exact p.elim
              | rt t =>
                intro G' H' Wt W' σ' v n' s' off nd rt pn' hl'
                simp only [unset] at p
                by_cases hq : T.plains (δ2.set i .hole) = true ∧ t.plain = true
                · rw [if_pos hq] at p
                  obtain ⟨W3, sub3, s4⟩ := back s' hq.1
                  have nd3 : (Wt ++ W3).Nodup := nodup_app (List.nodup_append.mp nd).1 s4.nd fun c m m' => disj_of nd c m (sub3 c m')
                  refine p G' H' Wt W3 _ v (n2.trans (n'.weak fun c m => (List.mem_append.mp m).elim (List.mem_append_left _) fun z => List.mem_append_right _ (sub3 c z))) s4 off nd3 (repT_plain t v Wt hq.2 rt) (pnI pn') (by rw [List.length_set, hl', List.length_set, hl1])
                · rw [if_neg hq] at p; exact p.elim
        · rw [if_neg hno] at p
          exact p.elim
      · subst hbf
        simp only [e1] at p
        exact p G1 H1 W1 σ1 cls d n1 s1 pn1 hl1 ⟨ec, ex⟩
end
end L2.DL

namespace L2.DL
open PySem PySem.Spec PyProof.Rows

/-! ### in the suite of an except clause -/
structure XcC (K : PySem.W.Frag) (D : Addr) : Prop where
  cl : (PySem.W.clsIn K D).isSome = true
  ga : PySem.W.findIn K (.ref D) "__getattribute__" = some (some (.builtin "BaseException.__getattribute__"))
  gg : PySem.W.findIn K (.ref D) "__getattr__" = some none
  su : PySem.W.subIn K (.ref D) (.type "BaseException") = some true
  hd : PySem.W.hasDictIn K D = true
  ha : PySem.W.findIn K (.ref D) "__class__" = some (some (.builtin "object.__class__"))
  hn : PySem.W.specialIn K (.builtin "object.__class__") "__get__" = some (some (.builtin "getset_descriptor.__get__"))
  ht : PySem.W.takesIn K (.builtin "object.__class__") = some true
  hm : PySem.W.mroIn K D (.type "object") = some true
def rIsX (K : PySem.W.Frag) (D a : Addr) (d : Option Addr) : List V → Hp → VK → Prop := fun xs H Q => ∃ (c : V) (cv : Value) (b : Bool), xs = [.ref a, c] ∧ (∀ u, RelV c u → u = cv) ∧ PySem.W.kitOne K (.ref D) cv = some b ∧ (∀ dd, d = some dd → ∃ fs, H dd = some (.xd fs)) ∧ Q (.bl b) H
theorem call_isX {X : Cx} {a D : Addr} {d : Option Addr} {oe : Obj} {pn : List (Addr × Obj)} (C : XcC X.K D) (hz : Zc (.ref D) d oe) (hf : ∃ vs, oe.data = .fields vs) : CallR (X.suite a ((a, oe) :: pn)) (.builtin "isinstance") (rIsX X.K D a d) := by
  intro pins s σ H xs us Q I r h
  obtain ⟨c, cv, b, rfl, hcv, e, hd, q⟩ := h
  cases r with
  | cons rx rr =>
    cases rr with
    | cons rt rr =>
      cases rr
      cases rx
      have ec := hcv _ rt
      subst ec
      obtain ⟨hget, _⟩ := I.pin (a, oe) (List.mem_append.mpr (.inl List.mem_cons_self))
      obtain ⟨vs, hv⟩ := hf
      have J : ∃ od, PySem.W.InstAt s.heap a oe D od := by
        cases d with
        | none =>
          obtain ⟨oc, od, oda, osl⟩ := oe
          obtain ⟨h1, h2⟩ := hz
          dsimp only at h1 h2 hv
          subst h1 h2 hv
          exact ⟨none, hget, rfl, rfl, trivial⟩
        | some dd =>
          obtain ⟨fs, ea⟩ := hd dd rfl
          have hx : ObjOk X.prog X.w H s.heap dd (.xd fs) := I.hok dd _ ea
          obtain ⟨mA, hns, hr⟩ := hx
          obtain ⟨od, ho, hl⟩ := lookIn_ns hns
          exact ⟨some od, hget, hz.1, by unfold PySem.W.notCls; rw [hv] <;> rfl, by rw [hz.2]; exact ho⟩
      obtain ⟨od, J⟩ := J
      exact PySem.W.kia_one (PySem.W.kitx_exc C.cl C.ga C.gg C.su C.ha C.hn C.ht C.hm) I.kIn J e (fun z => nomatch z) fun tk => ⟨.bl b, H, I.kept (t' := tk) fun _ _ z => z, rfl, q⟩
/-- caught.f -/
def vXf (i : Nat) (x : Exn) (f : Str) : VM := fun δ => match δ[i]?, x with
  | some .exc, some (ns, xs) => (zlk f ns xs).map bord
  | _, _ => none
/-- isinstance(caught, C) -/
def vIsX (i : Nat) (c : Str) (tb : ITab) (n : VM) : VM := fun δ => match δ[i]?, n δ with
  | some .exc, some (.d y) => match clD y with
    | some b => (tb.get (.c c) b).map fun k => .d (.bl k)
    | none => none
  | _, _ => none
section
variable {X : Cx} {B : BH} {Wx : WX} {a : Addr} {oe : Obj} {cls : Value} {d : Option Addr} {pn : List (Addr × Obj)} {c : Str} {x0 : Exn} {i : Nat} {n f x : Str} {np pos p : Pos} {e2 : Expr} {v2 : VM}
theorem dl_xf (k : Caught X.K B a oe cls d c x0) (T : XfC X.K (He.ga X.K c)) (hno : PySem.W.findIn X.K (.ref (He.ga X.K c)) f = some none) (hx : PE (X.suite a ((a, oe) :: pn)) (.Name n np) (tVar i))
    (hb : attributeBase (.Name n np) f X.env (eval (.Name n np) X.env) = eval (.Name n np) X.env := by rfl) : DL (X.suite a ((a, oe) :: pn)) B (.Attribute (.Name n np) f pos) (vXf i x0 f) :=
  peImp (pe_xf T hno k.z k.fl hx hb) fun σ H Q ⟨G, W, δ, t, s, e, q⟩ => by
    unfold vXf at e
    split at e
    · rename_i ns xs h0 _
      obtain ⟨y, hy, et⟩ := Option.map_eq_some_iff.mp e
      obtain ⟨v, W1, W2, ev, r, re, qq⟩ := slot_of s h0 (fun z => nomatch z)
      obtain ⟨_, er⟩ := r
      have dd := k.dd
      obtain ⟨dx, vfs, h1, h2, h3⟩ := dd
      obtain ⟨u, k1, k2⟩ := h3 f y (zlk_zip.trans hy)
      refine ⟨_, ev, by rw [er, k.ex], k.cl, dx, vfs, u, h1, s.bor _ _ h2, k1, q u [] ?_ fun _ m => nomatch m⟩
      rw [← et]
      exact bord_rep k2
    · cases e
theorem dl_isX (k : Caught X.K B a oe cls d c x0) (C : XcC X.K (He.ga X.K c)) {tb : ITab} (ok : ∀ e ∈ tb, PySem.W.kitOne X.K (e.1.v X.K) (e.2.1.v X.K) = some e.2.2) (hg : Gl (X.suite a ((a, oe) :: pn)) "isinstance") (hm : X.mg "isinstance" = none)
    (hx : PE (X.suite a ((a, oe) :: pn)) (.Name n np) (tVar i)) (h2 : DL (X.suite a ((a, oe) :: pn)) B e2 v2)
    (he : starEach [.Name n np, e2] X.env = (false, eval (.Name n np) X.env) :: starEach [e2] X.env := by rfl) (he2 : starEach [e2] X.env = [(false, eval e2 X.env)] := by rfl) (hpl : (backTo pos (starEach [e2] X.env)).any (·.1) = false := by rfl) :
    DL (X.suite a ((a, oe) :: pn)) B (.Call (.Name "isinstance" p) [.Name n np, e2] [] pos) (vIsX i c tb v2) := by
  have hz : Zc (.ref (He.ga X.K c)) d oe := by rw [← k.cl]; exact k.z
  refine peImp (pe_callB (call_isX C hz k.fl) hg hm boot_isinstance (pa_cons hx (pa_cons h2 pa_nil he2) he) (by decide) (by decide) he hpl) fun σ H Q ⟨G, W, δ, t, s, e, q⟩ => ?_
  unfold vIsX at e
  split at e
  · rename_i y h0 hy
    cases e1 : clD y with
    | none => rw [e1] at e; cases e
    | some b =>
      simp only [e1] at e
      cases e3 : tb.get (.c c) b with
      | none => rw [e3] at e; cases e
      | some z =>
        rw [e3] at e
        cases e
        obtain ⟨v, W1, W2, ev, r, re, qq⟩ := slot_of s h0 (fun z => nomatch z)
        obtain ⟨_, er⟩ := r
        refine ⟨_, ev, G, W, δ, _, s, hy, fun u W3 ⟨_, ru⟩ _ => ⟨u, b.v X.K, z, by rw [er, k.ex], fun w rw_ => (clsV_of e1 ru).eq rw_, ok _ (ITab.get_mem e3), fun dd ed => ?_, q _ [] ⟨rfl, rfl⟩ fun _ m => nomatch m⟩⟩
        have kd := k.dd
        cases x0 with
        | none =>
          have kd : d = none := kd
          rw [kd] at ed
          cases ed
        | some nx =>
          obtain ⟨dx, vfs, k1, k2, _⟩ := kd
          rw [k1] at ed
          cases ed
          exact ⟨vfs, s.bor _ _ k2⟩
  · cases e
end
end L2.DL

namespace L2.DL
open PySem PySem.Spec PyProof.Rows

/-! ### a body's context -/
structure Bd (X : Cx) (Wx : WX) (k : Nat) : Prop where
  hr : Room k X.A
  tk : Takes X Wx
  hp : PassesOwn (model X.prog X.w) X.A X.env X.xe
  calm : X.calm = true
  nd : X.N.Nodup
  st : X.stack = X.env :: X.outer
  fr : X.env.frame = some X.env.locals
theorem Bd.at {X : Cx} {Wx : WX} {j k : Nat} (b : Bd X Wx k) (h : j ≤ k) : Room j X.A := b.hr.mono h
theorem Bd.un {X : Cx} {Wx : WX} {k : Nat} (b : Bd X Wx k) : X.A.units + 64 < cLine := b.hr.units
theorem Bd.tr {X : Cx} {Wx W : WX} {k : Nat} (b : Bd X Wx k) {pn : List (Addr × Obj)} {xe : Value → Shared → Prop} (h1 : Takes (X.tr pn xe) W) (h2 : PassesOwn (model X.prog X.w) X.A X.env xe) : Bd (X.tr pn xe) W k :=
  ⟨b.hr, h1, h2, b.calm, b.nd, b.st, b.fr⟩
/-- .. in a suite of an except clause -/
structure Sb (X : Cx) : Prop where
  nd : X.N.Nodup
  un : X.A.units + 64 < cLine
theorem Bd.suite {X : Cx} {Wx : WX} {k : Nat} (b : Bd X Wx k) (a : Addr) (pn : List (Addr × Obj)) : Sb (X.suite a pn) := ⟨b.nd, b.un⟩
theorem dl_nint {X : Cx} {B : BH} {i : Nat} {j : Nat} {p1 p2 : Pos} : DL X B (.UnaryOp .USub (.Constant (.int i) j p1) p2) (vC (.int (-i))) := peImp (pe_un un_neg pe_int) fun σ H Q ⟨G, W, δ, t, s, e, q⟩ => by
  cases e
  exact ⟨i, rfl, q _ [] ⟨rfl, rfl⟩ fun _ m => nomatch m⟩
theorem def_fn {P : Program} {w : World} {K : PySem.W.Frag} {mg : Str → Option Value} {base : Heap} {x qual : Str} {params : Arguments} {body : List Stmt} {scope : Scope} {dvs : List V} {kws : List (Str × V)} {f : Addr} {fd : FuncData} {k : Nat} {m : SM} (N ps : List Str) (io : List Nat)
    (F : FunD K x qual params body scope dvs kws f fd) (S : FnScope N ps scope) (hio : io.Nodup) (hin : ∀ i ∈ io, i < ps.length)
    (hbody : ∀ (cdv : Value) (A : Around) (outer : List PySem.Env) (s : Shared) (H : Hp) (B : BH) (E : XK), Bd (cxOf (CX P w) P w K mg base N qual scope f cdv A outer s H E) (fun cls d _ H => E cls d H) k → DB (cxOf (CX P w) P w K mg base N qual scope f cdv A outer s H E) B (fun cls d _ H => E cls d H) io body m) :
    FnOk P w K mg base (CX P w) (k + 1) f fd ps (spF K ps.length io (mkF N.length io m)) :=
  fn_ok io F S hio hin fun cdv A outer s H B E hr => hbody cdv A outer s H B E ⟨hr, takes_of rfl rfl rfl rfl, passes_of rfl, rfl, S.nd, rfl, rfl⟩
/-- the rule for a def, with its context -/
theorem def_ok {P : Program} {w : World} {K : PySem.W.Frag} {mg : Str → Option Value} {base : Heap} {x qual : Str} {params : Arguments} {body : List Stmt} {scope : Scope} {dvs : List V} {kws : List (Str × V)} {f : Addr} {fd : FuncData} {k : Nat} {m : SM} {dfl : List D} (N ps : List Str) (io : List Nat)
    (F : FunD K x qual params body scope dvs kws f fd) (S : FnScope N ps scope) (hio : io.Nodup) (hin : ∀ i ∈ io, i < ps.length) (ds : List Value) (hb : Binds K fd ps ds) (hd : Vals dvs ds) (hdD : ∀ G, RepDs K G dfl dvs)
    (hbody : ∀ (cdv : Value) (A : Around) (outer : List PySem.Env) (s : Shared) (H : Hp) (B : BH) (E : XK), Bd (cxOf (CX P w) P w K mg base N qual scope f cdv A outer s H E) (fun cls d _ H => E cls d H) k → DB (cxOf (CX P w) P w K mg base N qual scope f cdv A outer s H E) B (fun cls d _ H => E cls d H) io body m) :
    Fn P w K mg base (k + 1) ps.length io dfl f (mkF N.length io m) :=
  ⟨⟨fd, ps, ds, dvs, rfl, fn_ok io F S hio hin fun cdv A outer s H B E hr => hbody cdv A outer s H B E ⟨hr, takes_of rfl rfl rfl rfl, passes_of rfl, rfl, S.nd, rfl, rfl⟩, hb, hd, hdD⟩, F.kp⟩
theorem binds_all {K : PySem.W.Frag} {x qual : Str} {params : Arguments} {body : List Stmt} {scope : Scope} {kws : List (Str × V)} {f : Addr} {fd : FuncData} {ps : List Str} (F : FunD K x qual params body scope [] kws f fd) (h : ∀ (us : List Value), us.length = ps.length → bindArgs fd ⟨us, []⟩ = pure (ps.zip us)) : Binds K fd ps [] := .all h

/-! ### the law -/
theorem repDs_ints {K : PySem.W.Frag} {G : Hp} : ∀ ns : List Int, RepDs K G (ns.map D.int) (ns.map V.int)
  | [] => rfl
  | n :: r => ⟨_, _, rfl, rfl, repDs_ints r⟩
theorem law_sp {K : PySem.W.Frag} {F : FM} {ns : List Int} (h : F [.d (.scr (ns.map D.int))] = .ret (.d (.bl true)) []) (H : Hp) (a : Addr) (hS : SqL K H a (ns.map V.int)) : spF K 1 [] F [.ref a] H (fun v _ => v = .bl true) fun _ _ _ => False := by
  refine ⟨rfl, ⟨fun _ => none, 0⟩, H, [], [.d (.scr (ns.map D.int))], Same.refl H, (fun _ _ e => nomatch e), List.nodup_nil, (fun _ m => nomatch m), (fun _ m => nomatch m), ⟨_, [], [], [], rfl, ⟨rfl, a, _, rfl, hS, repDs_ints ns⟩, ⟨rfl, rfl⟩, List.Perm.refl _⟩, ?_⟩
  rw [h]
  intro G' H' Wt W' u n sb off nd rt ro
  exact rt.2

/-! ### what the head tells: a Hook of our own -/
structure Hk where
  as : List Addr
  ck : PySem.W.Frag → Bool
  fn : List He.DefD
def Hk.obs (h : Hk) (g : Addr → Option Obj) : He.AlD := ((h.ck (He.frG g h.as)) && h.fn.all (fun d => d.ok (He.frG g h.as)), h.fn.map fun d => He.fnW (He.frG g h.as) d.at_)
structure Says (h : Hk) (K : PySem.W.Frag) : Prop where
  ck : h.ck K = true
  fn : ∀ (i : Nat) (d : He.DefD), h.fn[i]? = some d → ∃ fd, FunD K d.name d.qual d.params d.body d.scope (d.dvs K) (d.kws K) (He.fAd K d.at_) fd
theorem says_of {h : Hk} {g : Addr → Option Obj} (e : h.obs g = He.valD h.fn) : Says h (He.frG g h.as) := by
  have e1 : ((h.ck (He.frG g h.as)) && h.fn.all (fun d => d.ok (He.frG g h.as))) = true := congrArg (fun z : He.AlD => z.1) e
  have e2 : (h.fn.map fun d => He.fnW (He.frG g h.as) d.at_) = h.fn.map He.DefD.val := congrArg (fun z : He.AlD => z.2) e
  obtain ⟨a, b⟩ := He.ba e1
  refine ⟨a, fun i d hi => ?_⟩
  have e3 : (h.fn.map fun d => He.fnW (He.frG g h.as) d.at_)[i]? = (h.fn.map He.DefD.val)[i]? := by rw [e2]
  rw [List.getElem?_map, List.getElem?_map, hi] at e3
  exact He.DefD.funD (Option.some.inj e3) (List.all_eq_true.mp b d (List.mem_of_getElem? hi))
def Hk.hook (h : Hk) : PySem.W.Hook where
  α := He.AlD
  obs := fun s => h.obs s.heap.get?
  val := fun _ => He.valD h.fn
  says := fun _ hp => ∃ K : PySem.W.Frag, K.In hp ∧ Says h K
  of := fun _ _ e => ⟨_, He.frG_in, says_of e⟩
  keeps := fun _ _ _ ⟨K, hK, c⟩ k => ⟨K, PySem.W.Frag.In.keeps hK k, c⟩
theorem Hk.obs_eq {h : Hk} {g : Addr → Option Obj} {s : Shared} (e : ∀ a, g a = s.heap.get? a) : h.obs g = h.hook.obs s := by
  have e : g = s.heap.get? := funext e
  rw [e] <;> rfl

/-! ### checks -/
/-- an exception class with an __init__ of its own -/
def oexL (C : Addr) (cd : ClassData) : List (Option Value) → Bool
  | [_, _, _, _, some (.builtin n), _] => (match cd.mro with
    | .ref C' :: bm => C' == C && HandSPX.refsVE bm
    | _ => false) && (n == "ValueError.__new__" && (cd.hasDict && !cd.hasDel))
  | _ => false
def oexO (C : Addr) (o : Obj) : Bool := match o with
  | ⟨.type t, _, .cls cd, sl⟩ => t == "type" && oexL C cd sl.toList
  | _ => false
theorem oexO_ok {C : Addr} {o : Obj} (h : oexO C o = true) : ∃ nm q N bs bm sn sub ab col dd k0 k1 k2 k3 k5, o = excClassObj nm q C N bs bm true sn sub ab col dd k0 k1 k2 k3 k5 "ValueError.__new__" ∧ HandSPX.refsVE bm = true := by
  obtain ⟨oc, od, dt, sl⟩ := o
  cases oc with
  | type t =>
    cases dt with
    | cls cd =>
      obtain ⟨ht, hq⟩ := He.ba (show (t == "type" && oexL C cd sl.toList) = true from h)
      clear h
      have ht := beq_iff_eq.mp ht
      subst ht
      generalize hl : sl.toList = l at hq
      unfold oexL at hq
      split at hq
      · rename_i k0 k1 k2 k3 n k5
        obtain ⟨h1, hq⟩ := He.ba hq
        obtain ⟨h2, hq⟩ := He.ba hq
        obtain ⟨h3, h4⟩ := He.ba hq
        have hn := beq_iff_eq.mp h2
        subst hn
        obtain ⟨nm, bs, mro, ns, q, hdct, sn, sub, ab, col, hdel⟩ := cd
        have h3' : hdct = true := h3
        have h4' : hdel = false := by simpa using h4
        subst h3' h4'
        cases mro with
        | nil => cases h1
        | cons m bm =>
          cases m with
          | ref C' =>
            obtain ⟨h5, h6⟩ := He.ba (show (C' == C && HandSPX.refsVE bm) = true from h1)
            have h5 := beq_iff_eq.mp h5
            subst h5
            have esl : sl = #[k0, k1, k2, k3, some (.builtin "ValueError.__new__"), k5] := by
              rw [← Array.toList_inj]
              exact hl
            exact ⟨nm, q, ns, bs, bm, sn, sub, ab, col, od, k0, k1, k2, k3, k5, by rw [esl], h6⟩
          | _ => cases h1
      · cases hq
    | _ => cases h
  | _ => cases h
def oexB (K : PySem.W.Frag) (c : Str) : Bool := (match K.lookup (He.ga K c) with
    | some o => oexO (He.ga K c) o
    | none => false) &&
  (He.eqO (PySem.W.findIn K (.ref (He.ga K c)) "__setattr__") (some (some (.builtin "object.__setattr__"))) && (decide (PySem.W.subIn K (.ref (He.ga K c)) (.type "BaseException") = some true) && (decide (PySem.W.typeIn K (.ref (He.ga K c)) = some (.type "type")) && PySem.W.keepIn K (.ref (He.ga K c)))))
theorem oexB_ok {K : PySem.W.Frag} {c : Str} (h : oexB K c = true) : OexC K (He.ga K c) := by
  obtain ⟨h1, h⟩ := He.ba h
  obtain ⟨h2, h⟩ := He.ba h
  obtain ⟨h3, h⟩ := He.ba h
  obtain ⟨h4, h5⟩ := He.ba h
  refine ⟨?_, He.eqO_ok h2, of_decide_eq_true h3, of_decide_eq_true h4, h5⟩
  cases e : K.lookup (He.ga K c) with
  | none => rw [e] at h1; cases h1
  | some o =>
    rw [e] at h1
    obtain ⟨nm, q, N, bs, bm, sn, sub, ab, col, dd, k0, k1, k2, k3, k5, e2, hv⟩ := oexO_ok h1
    exact ⟨nm, q, N, bs, bm, sn, sub, ab, col, dd, k0, k1, k2, k3, k5, by rw [e2], hv⟩
def xcB (K : PySem.W.Frag) (c : Str) : Bool := (PySem.W.clsIn K (He.ga K c)).isSome && (He.eqO (PySem.W.findIn K (.ref (He.ga K c)) "__getattribute__") (some (some (.builtin "BaseException.__getattribute__"))) && (He.eqO (PySem.W.findIn K (.ref (He.ga K c)) "__getattr__") (some none) &&
  (decide (PySem.W.subIn K (.ref (He.ga K c)) (.type "BaseException") = some true) && (PySem.W.hasDictIn K (He.ga K c) && (He.eqO (PySem.W.findIn K (.ref (He.ga K c)) "__class__") (some (some (.builtin "object.__class__"))) &&
  (He.eqO (PySem.W.specialIn K (.builtin "object.__class__") "__get__") (some (some (.builtin "getset_descriptor.__get__"))) && (decide (PySem.W.takesIn K (.builtin "object.__class__") = some true) && decide (PySem.W.mroIn K (He.ga K c) (.type "object") = some true))))))))
theorem xcB_ok {K : PySem.W.Frag} {c : Str} (h : xcB K c = true) : XcC K (He.ga K c) := by
  obtain ⟨h1, h⟩ := He.ba h
  obtain ⟨h2, h⟩ := He.ba h
  obtain ⟨h3, h⟩ := He.ba h
  obtain ⟨h4, h⟩ := He.ba h
  obtain ⟨h5, h⟩ := He.ba h
  obtain ⟨h6, h⟩ := He.ba h
  obtain ⟨h7, h⟩ := He.ba h
  obtain ⟨h8, h9⟩ := He.ba h
  exact ⟨h1, He.eqO_ok h2, He.eqO_ok h3, of_decide_eq_true h4, h5, He.eqO_ok h6, He.eqO_ok h7, of_decide_eq_true h8, of_decide_eq_true h9⟩
theorem XcC.xf {K : PySem.W.Frag} {D : Addr} (c : XcC K D) : XfC K D := ⟨c.ga, c.gg, c.su, c.hd⟩
def insB (K : PySem.W.Frag) (c : Str) : Bool := (He.Fa.cls c).ok K && (He.eqO (PySem.W.findIn K (.ref (He.ga K c)) "__class__") (some (some (.builtin "object.__class__"))) &&
  (He.eqO (PySem.W.specialIn K (.builtin "object.__class__") "__get__") (some (some (.builtin "getset_descriptor.__get__"))) && (decide (PySem.W.takesIn K (.builtin "object.__class__") = some true) && decide (PySem.W.mroIn K (He.ga K c) (.type "object") = some true))))
theorem insB_ok {K : PySem.W.Frag} {c : Str} (h : insB K c = true) : InsTy K (He.ga K c) := by
  obtain ⟨h1, h⟩ := He.ba h
  obtain ⟨h6, h⟩ := He.ba h
  obtain ⟨h7, h⟩ := He.ba h
  obtain ⟨h8, h9⟩ := He.ba h
  exact ⟨He.cls_ok h1, He.eqO_ok h6, He.eqO_ok h7, of_decide_eq_true h8, of_decide_eq_true h9⟩
def itabB (K : PySem.W.Frag) (l : ITab) : Bool := l.all fun e => decide (PySem.W.kitOne K (e.1.v K) (e.2.1.v K) = some e.2.2) && (match e.1 with
  | .c s => insB K s
  | _ => true)
theorem itabB_ok {K : PySem.W.Frag} {l : ITab} (h : itabB K l = true) : l.Ok K := fun e m => by
  obtain ⟨h1, h2⟩ := He.ba (List.all_eq_true.mp h e m)
  refine ⟨of_decide_eq_true h1, fun s es => ?_⟩
  rw [es] at h2
  exact insB_ok h2
/-- isinstance of a caught exception -/
def itxB (K : PySem.W.Frag) (l : ITab) : Bool := l.all fun e => decide (PySem.W.kitOne K (e.1.v K) (e.2.1.v K) = some e.2.2)
theorem itxB_ok {K : PySem.W.Frag} {l : ITab} (h : itxB K l = true) : ∀ e ∈ l, PySem.W.kitOne K (e.1.v K) (e.2.1.v K) = some e.2.2 := fun e m => of_decide_eq_true (List.all_eq_true.mp h e m)
/-- data that stands in the written part -/
def relB : D → Value → Bool
  | .non, .none => true
  | .bl a, .bool b => a == b
  | .int i, .int j _ => i == j
  | .str s, .str t _ => s == t
  | .ty n, .type m => n == m
  | _, _ => false
theorem relB_ok {K : PySem.W.Frag} {x : D} {u : Value} (h : relB x u = true) : ∃ v, RelV v u ∧ ∀ G, RepD K G x v := by
  unfold relB at h
  split at h
  · exact ⟨.non, rfl, fun _ => rfl⟩
  · rename_i a b
    rw [beq_iff_eq] at h
    exact ⟨.bl b, rfl, fun _ => by rw [h]; rfl⟩
  · rename_i i j t
    rw [beq_iff_eq] at h
    exact ⟨.int j, ⟨t, rfl⟩, fun _ => by rw [h]; rfl⟩
  · rename_i s t tk
    rw [beq_iff_eq] at h
    exact ⟨.str t, ⟨tk, rfl⟩, fun _ => by rw [h]; rfl⟩
  · rename_i n m
    rw [beq_iff_eq] at h
    exact ⟨.ty m, rfl, fun _ => by rw [h]; rfl⟩
  · cases h
def relsB : List D → List Value → Bool
  | [], [] => true
  | x :: xs, u :: us => relB x u && relsB xs us
  | _, _ => false
theorem relsB_ok {K : PySem.W.Frag} : ∀ {xs : List D} {us : List Value}, relsB xs us = true → ∃ vs, Vals vs us ∧ ∀ G, RepDs K G xs vs
  | [], [], _ => ⟨[], .nil, fun _ => rfl⟩
  | [], _ :: _, h => by cases h
  | _ :: _, [], h => by cases h
  | x :: xs, u :: us, h => by
    obtain ⟨h1, h2⟩ := He.ba h
    obtain ⟨v, r1, r2⟩ := relB_ok h1
    obtain ⟨vs, r3, r4⟩ := relsB_ok h2
    exact ⟨v :: vs, .cons r1 r3, fun G => ⟨v, vs, rfl, r2 G, r4 G⟩⟩
/-- .. or a tuple, a list of such -/
def relK (K : PySem.W.Frag) (x : D) (u : Value) : Bool := match x, u with
  | .tup xs, .ref a => (match K.lookup a with
    | some ⟨.type "tuple", _, .seq its _, _⟩ => relsB xs its.toList && decide (its.size ≤ szL)
    | _ => false)
  | .scr xs, .ref a => (match K.lookup a with
    | some ⟨.type "list", none, .seq its _, _⟩ => relsB xs its.toList && decide (its.size ≤ szL)
    | _ => false)
  | .cls c, .ref a => a == He.ga K c
  | x, u => relB x u
theorem relK_ok {K : PySem.W.Frag} {x : D} {u : Value} (h : relK K x u = true) : ∃ v, RelV v u ∧ ∀ G, RepD K G x v := by
  unfold relK at h
  split at h
  · rename_i xs a
    split at h
    · rename_i dd its n sl e
      obtain ⟨h1, h2⟩ := He.ba h
      obtain ⟨vs, r1, r2⟩ := relsB_ok (K := K) h1
      exact ⟨.ref a, rfl, fun G => ⟨a, vs, rfl, .inr ⟨_, its, n, e, rfl, rfl, by rw [szL_eq]; exact of_decide_eq_true h2, r1⟩, r2 G⟩⟩
    · cases h
  · rename_i xs a
    split at h
    · rename_i its n sl e
      obtain ⟨h1, h2⟩ := He.ba h
      obtain ⟨vs, r1, r2⟩ := relsB_ok (K := K) h1
      exact ⟨.ref a, rfl, fun G => ⟨a, vs, rfl, .inr ⟨_, its, n, e, rfl, rfl, rfl, by rw [szL_eq]; exact of_decide_eq_true h2, r1⟩, r2 G⟩⟩
    · cases h
  · rename_i c a
    rw [beq_iff_eq] at h
    exact ⟨.ref a, rfl, fun G => by rw [h]; rfl⟩
  · exact relB_ok h
/-- C.f is the constant y -/
def cvB (K : PySem.W.Frag) (c f : Str) (y : D) : Bool := PySem.W.readsIn K (He.ga K c) (.type "type") && (He.eqO (PySem.W.specialIn K (.ref (He.ga K c)) "__getattribute__") (some (some (.builtin "type.__getattribute__"))) &&
  (match PySem.W.findCls K (.ref (He.ga K c)) (.type "type") f with
  | some (.val u) => relK K y u
  | _ => false))
theorem cvB_ok {K : PySem.W.Frag} {c f : Str} {y : D} (h : cvB K c f y = true) : CV K c f y := by
  obtain ⟨h1, h⟩ := He.ba h
  obtain ⟨h2, h⟩ := He.ba h
  cases e : PySem.W.findCls K (.ref (He.ga K c)) (.type "type") f with
  | none => rw [e] at h; cases h
  | some z =>
    rw [e] at h
    cases z with
    | val u =>
      obtain ⟨v, r1, r2⟩ := relK_ok h
      exact ⟨.type "type", v, u, ⟨h1, He.eqO_ok h2⟩, ⟨e, r1⟩, r2⟩
    | _ => cases h
/-- a global constant -/
def gvB (K : PySem.W.Frag) (x : Str) (y : D) : Bool := match PySem.W.nsIn K mainGlobals x with
  | some (some u) => relK K y u
  | _ => false
theorem gvB_ok {K : PySem.W.Frag} {h : Heap} {mg : Str → Option Value} (X : K.In h) (G : h.Ns mainGlobals mg) {x : Str} {y : D} (c : gvB K x y = true) : ∃ v u, mg x = some u ∧ RelV v u ∧ ∀ G, RepD K G y v := by
  have c' : (match PySem.W.nsIn K mainGlobals x with
    | some (some u) => relK K y u
    | _ => false) = true := c
  generalize e : PySem.W.nsIn K mainGlobals x = z at c'
  cases z with
  | none => cases c'
  | some o =>
    cases o with
    | none => cases c'
    | some u =>
      obtain ⟨v, r1, r2⟩ := relK_ok c'
      exact ⟨v, u, PySem.W.mg_of X G e, r1, r2⟩
theorem dn_gv {X : Cx} {B : BH} {Wx : WX} {x : Str} {y : D} {pos : Pos} (hg : Gl X x) (h : ∃ v u, X.mg x = some u ∧ RelV v u ∧ ∀ G, RepD X.K G y v) (hdb : (x == ("__debug__" : Str)) = false := by decide) : DN X B Wx (.Name x pos) (nC y) := by
  obtain ⟨v, u, h1, h2, h3⟩ := h
  exact dn_const (pe_glob hg h1 h2 hdb) h3
/-- f is a field of instances of these classes -/
def fldB (K : PySem.W.Frag) (f : Str) (cs : List Str) : Bool := cs.all fun c => (He.Fa.cls c).ok K && (He.Fa.noat c f).ok K
theorem fldB_ok {K : PySem.W.Frag} {f : Str} {cs : List Str} (h : fldB K f cs = true) : FldOk K f (fun c => cs.contains c) := fun c hc => by
  obtain ⟨h1, h2⟩ := He.ba (List.all_eq_true.mp h c (by simpa using hc))
  exact ⟨He.cls_ok h1, He.noat_ok h2⟩
def xclB (K : PySem.W.Frag) (x : Str) (l : List (Str × Bool)) : Bool := l.all fun p => (He.Fa.exm p.1 x p.2).ok K
theorem xclB_ok {K : PySem.W.Frag} {x : Str} {l : List (Str × Bool)} {cl : Str → Option Bool} (h : xclB K x l = true) (hl : ∀ c b, cl c = some b → (c, b) ∈ l) : ∀ c b, cl c = some b → PySem.W.exmOne K (.ref (He.ga K c)) (.ref (He.ga K x)) = some b := fun c b e =>
  He.exm_ok (List.all_eq_true.mp h (c, b) (hl c b e))
def lkp {β : Type} (l : List (Str × β)) (c : Str) : Option β := match l with
  | [] => none
  | (x, b) :: r => if x = c then some b else lkp r c
theorem lkp_mem {β : Type} : ∀ {l : List (Str × β)} {c : Str} {b : β}, lkp l c = some b → (c, b) ∈ l
  | [], _, _, h => by cases h
  | (x, z) :: r, c, b, h => by
    unfold lkp at h
    split at h
    · rename_i e
      cases h
      rw [e]
      exact List.mem_cons_self
    · exact List.mem_cons_of_mem _ (lkp_mem h)
end L2.DL

namespace L2.DL
open PySem PySem.Spec PyProof.Rows

/-! ### evaluation of denotations: equations for simp (nothing is simplified ahead of its turn) -/
def fz : R T → R D
  | .ok (.d x) δ => .ok x δ
  | .ok t δ => if t.full then .ok t.frz δ else .no
  | .exn c x δ => .exn c x δ
  | .no => .no
def fzs : R (List T) → R (List D)
  | .ok ts δ => if T.full.go ts then .ok (T.frz.go ts) δ else .no
  | .exn c x δ => .exn c x δ
  | .no => .no
theorem val_fz {β : Type} (r : R T) (f : D → Env → R β) : r.val f = (fz r).bind f := by
  cases r with
  | no => rfl
  | exn c x δ => rfl
  | ok t δ =>
    cases t <;> simp only [R.val, fz] <;> first
      | rfl
      | (split <;> rfl)
theorem vals_fz {β : Type} (r : R (List T)) (f : List D → Env → R β) : r.vals f = (fzs r).bind f := by
  cases r with
  | no => rfl
  | exn c x δ => rfl
  | ok t δ =>
    simp only [R.vals, fzs]
    split <;> rfl
@[simp] theorem fz_d (x : D) (δ : Env) : fz (.ok (.d x) δ) = .ok x δ := rfl
@[simp] theorem fz_lst (ts : List T) (δ : Env) : fz (.ok (.lst ts) δ) = if T.full.go ts then .ok (.lst (T.frz.go ts)) δ else .no := rfl
@[simp] theorem fz_ins (c : Str) (ns : List Str) (ts : List T) (δ : Env) : fz (.ok (.ins c ns ts) δ) = if T.full.go ts then .ok (.ins c ns (T.frz.go ts)) δ else .no := rfl
@[simp] theorem fz_exn (c : Str) (x : Exn) (δ : Env) : fz (.exn c x δ) = .exn c x δ := rfl
@[simp] theorem fz_no : fz .no = .no := rfl
@[simp] theorem fzs_ok (ts : List T) (δ : Env) : fzs (.ok ts δ) = if T.full.go ts then .ok (T.frz.go ts) δ else .no := rfl
@[simp] theorem fzs_exn (c : Str) (x : Exn) (δ : Env) : fzs (.exn c x δ) = .exn c x δ := rfl
@[simp] theorem fzs_no : fzs .no = .no := rfl
@[simp] theorem full_nil : T.full.go [] = true := rfl
@[simp] theorem full_cons (t : T) (r : List T) : T.full.go (t :: r) = (t.full && T.full.go r) := rfl
@[simp] theorem full_d (x : D) : (T.d x).full = true := rfl
@[simp] theorem full_lst (ts : List T) : (T.lst ts).full = T.full.go ts := rfl
@[simp] theorem full_ins (c : Str) (ns : List Str) (ts : List T) : (T.ins c ns ts).full = T.full.go ts := rfl
@[simp] theorem full_map (xs : List D) : T.full.go (xs.map T.d) = true := by
  induction xs with
  | nil => rfl
  | cons x xs ih => simpa using ih
@[simp] theorem full_app (a b : List T) : T.full.go (a ++ b) = (T.full.go a && T.full.go b) := by
  induction a with
  | nil => simp
  | cons t a ih => simp [ih, Bool.and_assoc]
@[simp] theorem frz_nil : T.frz.go [] = [] := rfl
@[simp] theorem frz_cons (t : T) (r : List T) : T.frz.go (t :: r) = t.frz :: T.frz.go r := rfl
@[simp] theorem frz_d (x : D) : (T.d x).frz = x := rfl
@[simp] theorem frz_lst (ts : List T) : (T.lst ts).frz = .lst (T.frz.go ts) := rfl
@[simp] theorem frz_ins (c : Str) (ns : List Str) (ts : List T) : (T.ins c ns ts).frz = .ins c ns (T.frz.go ts) := rfl
@[simp] theorem frz_map (xs : List D) : T.frz.go (xs.map T.d) = xs := by
  induction xs with
  | nil => rfl
  | cons x xs ih => simpa using ih
@[simp] theorem frz_app (a b : List T) : T.frz.go (a ++ b) = T.frz.go a ++ T.frz.go b := by
  rw [T.frz_go, T.frz_go, T.frz_go, List.map_append]
@[simp] theorem bd_ok {α β : Type} (a : α) (δ : Env) (f : α → Env → R β) : (R.ok a δ).bind f = f a δ := rfl
@[simp] theorem bd_exn {α β : Type} (c : Str) (x : Exn) (δ : Env) (f : α → Env → R β) : (R.exn c x δ : R α).bind f = .exn c x δ := rfl
@[simp] theorem bd_no {α β : Type} (f : α → Env → R β) : (R.no : R α).bind f = .no := rfl
@[simp] theorem of_some {α : Type} (a : α) (δ : Env) : R.of (some a) δ = .ok a δ := rfl
@[simp] theorem of_none {α : Type} (δ : Env) : (R.of none δ : R α) = .no := rfl
/-! constants, names -/
@[simp] theorem nC_e (x : D) (δ : Env) : nC x δ = .ok (.d x) δ := rfl
def slotF (i : Nat) (δ : Env) : Option T → R T
  | some (.d x) => .ok (.d x) δ
  | some t => if t.full then .ok (.d t.frz) (δ.set i (.d t.frz)) else .no
  | none => .no
@[simp] theorem nFrz_e (i : Nat) (δ : Env) : nFrz i δ = slotF i δ δ[i]? := by
  unfold nFrz slotF
  rfl
@[simp] theorem slotF_d (i : Nat) (δ : Env) (x : D) : slotF i δ (some (.d x)) = .ok (.d x) δ := rfl
@[simp] theorem slotF_lst (i : Nat) (δ : Env) (ts : List T) : slotF i δ (some (.lst ts)) = if T.full.go ts then .ok (.d (.lst (T.frz.go ts))) (δ.set i (.d (.lst (T.frz.go ts)))) else .no := rfl
@[simp] theorem slotF_ins (i : Nat) (δ : Env) (c : Str) (ns : List Str) (ts : List T) : slotF i δ (some (.ins c ns ts)) = if T.full.go ts then .ok (.d (.ins c ns (T.frz.go ts))) (δ.set i (.d (.ins c ns (T.frz.go ts)))) else .no := rfl
def slotM (i : Nat) (δ : Env) : Option T → R T
  | some (.d x) => .ok (.d x) δ
  | some .hole => .no
  | some .exc => .no
  | some (.bor _) => .no
  | some t => .ok t (δ.set i .hole)
  | none => .no
@[simp] theorem nMove_e (i : Nat) (δ : Env) : nMove i δ = slotM i δ δ[i]? := by
  unfold nMove slotM
  cases δ[i]? with
  | none => rfl
  | some t => cases t <;> rfl
@[simp] theorem slotM_d (i : Nat) (δ : Env) (x : D) : slotM i δ (some (.d x)) = .ok (.d x) δ := rfl
@[simp] theorem slotM_lst (i : Nat) (δ : Env) (ts : List T) : slotM i δ (some (.lst ts)) = .ok (.lst ts) (δ.set i .hole) := rfl
@[simp] theorem slotM_ins (i : Nat) (δ : Env) (c : Str) (ns : List Str) (ts : List T) : slotM i δ (some (.ins c ns ts)) = .ok (.ins c ns ts) (δ.set i .hole) := rfl
/-! looks -/
def nhole : Option T → Option T
  | some .hole => none
  | o => o
@[simp] theorem vVar_e (i : Nat) (δ : Env) : vVar i δ = nhole δ[i]? := by
  unfold vVar nhole
  rfl
@[simp] theorem nhole_d (x : D) : nhole (some (.d x)) = some (.d x) := rfl
@[simp] theorem nhole_lst (x : List T) : nhole (some (.lst x)) = some (.lst x) := rfl
@[simp] theorem nhole_ins (c : Str) (ns : List Str) (ts : List T) : nhole (some (.ins c ns ts)) = some (.ins c ns ts) := rfl
@[simp] theorem nhole_exc : nhole (some .exc) = some .exc := rfl
@[simp] theorem vC_e (x : D) (δ : Env) : vC x δ = some (.d x) := rfl
def lookF (δ : Env) : Option T → R T
  | some (.d x) => .ok (.d x) δ
  | _ => .no
@[simp] theorem nLook_e (m : VM) (δ : Env) : nLook m δ = lookF δ (m δ) := by
  unfold nLook lookF
  rfl
@[simp] theorem lookF_d (δ : Env) (x : D) : lookF δ (some (.d x)) = .ok (.d x) δ := rfl
def ixF : Option T → Option T → Option T
  | some t, some (.d (.int i)) => itemT t i
  | _, _ => none
@[simp] theorem vIx_e (m n : VM) (δ : Env) : vIx m n δ = ixF (m δ) (n δ) := by
  unfold vIx ixF
  rfl
@[simp] theorem ixF_e (t : T) (i : Int) : ixF (some t) (some (.d (.int i))) = itemT t i := rfl
@[simp] theorem itemT_lst (ts : List T) (i : Int) : itemT (.lst ts) i = atI ts i := rfl
@[simp] theorem itemT_dlst (ts : List D) (i : Int) : itemT (.d (.lst ts)) i = (atI ts i).map T.d := rfl
@[simp] theorem itemT_dtup (ts : List D) (i : Int) : itemT (.d (.tup ts)) i = (atI ts i).map T.d := rfl
@[simp] theorem itemT_dscr (ts : List D) (i : Int) : itemT (.d (.scr ts)) i = (atI ts i).map T.d := rfl
@[simp] theorem itemT_dstr (z : Str) (i : Int) : itemT (.d (.str z)) i = if z.length ≤ szL then (atI z.cps.toList i).map fun c => .d (.str ⟨#[c]⟩) else none := rfl
theorem atI_lit {α : Type} (xs : List α) (n : Nat) : atI xs (n : Int) = xs[n]? := by
  unfold atI ixN
  rw [if_pos (Int.natCast_nonneg n)]
  by_cases h : n < xs.length
  · rw [if_pos (by omega)]
    simp
  · rw [if_neg (by omega)]
    simp only [Option.bind]
    rw [List.getElem?_eq_none (by omega)]
@[simp] theorem atI_0 {α : Type} (xs : List α) : atI xs 0 = xs[0]? := atI_lit xs 0
@[simp] theorem atI_1 {α : Type} (xs : List α) : atI xs 1 = xs[1]? := atI_lit xs 1
@[simp] theorem atI_2 {α : Type} (xs : List α) : atI xs 2 = xs[2]? := atI_lit xs 2
@[simp] theorem atI_3 {α : Type} (xs : List α) : atI xs 3 = xs[3]? := atI_lit xs 3
theorem ixN_lit {n k : Nat} (h : k < n) : ixN n (k : Int) = some k := by
  unfold ixN
  rw [if_pos (Int.natCast_nonneg k), if_pos (by omega)]
  simp
def see1 (f : List D → Option D) : Option D → Option T
  | some x => (f [x]).map T.d
  | none => none
@[simp] theorem vCall1_e (f : List D → Option D) (m : VM) (δ : Env) : vCall1 f m δ = see1 f ((m δ).bind T.see) := by
  unfold vCall1
  cases m δ with
  | none => rfl
  | some t =>
    simp only [Option.bind]
    cases t.see <;> rfl
@[simp] theorem see1_e (f : List D → Option D) (x : D) : see1 f (some x) = (f [x]).map T.d := rfl
@[simp] theorem see_d (x : D) : (T.d x).see = some x := rfl
@[simp] theorem see_lst (ts : List T) : (T.lst ts).see = if T.full.go ts then some (.lst (T.frz.go ts)) else none := rfl
@[simp] theorem vFld_e (cl : Str → Bool) (f : Str) (m : VM) (δ : Env) : vFld cl f m δ = (m δ).bind (fldT cl f) := rfl
@[simp] theorem fldT_ins (cl : Str → Bool) (f c : Str) (ns : List Str) (ts : List T) : fldT cl f (.ins c ns ts) = if cl c then zlk f ns ts else none := rfl
@[simp] theorem fldT_d (cl : Str → Bool) (f : Str) (x : D) : fldT cl f (.d x) = (fldD cl f x).map T.d := rfl
@[simp] theorem fldD_ins (cl : Str → Bool) (f c : Str) (ns : List Str) (ts : List D) : fldD cl f (.ins c ns ts) = if cl c then zlk f ns ts else none := rfl
@[simp] theorem zlk_cons {α : Type} (f g : Str) (r : List Str) (x : α) (xs : List α) : zlk f (g :: r) (x :: xs) = if f = g then some x else zlk f r xs := rfl
def nFldA (cl : Str → Bool) (f : Str) (x : D) (δ : Env) : R T := R.of ((fldD cl f x).map T.d) δ
@[simp] theorem nFld_e (cl : Str → Bool) (f : Str) (m : EM) (δ : Env) : nFld cl f m δ = (fz (m δ)).bind (nFldA cl f) := val_fz _ _
@[simp] theorem nFldA_e (cl : Str → Bool) (f : Str) (x : D) (δ : Env) : nFldA cl f x δ = R.of ((fldD cl f x).map T.d) δ := rfl
/-! operators, tests -/
def nOpB (f : D → D → Option T) (x y : D) (δ : Env) : R T := R.of (f x y) δ
def nOpA (f : D → D → Option T) (mb : EM) (x : D) (δ : Env) : R T := (fz (mb δ)).bind (nOpB f x)
@[simp] theorem nOp_e (f : D → D → Option T) (ma mb : EM) (δ : Env) : nOp f ma mb δ = (fz (ma δ)).bind (nOpA f mb) := by
  unfold nOp
  rw [val_fz]
  congr 1
  funext x δ1
  exact val_fz _ _
@[simp] theorem nOpA_e (f : D → D → Option T) (mb : EM) (x : D) (δ : Env) : nOpA f mb x δ = (fz (mb δ)).bind (nOpB f x) := rfl
@[simp] theorem nOpB_e (f : D → D → Option T) (x y : D) (δ : Env) : nOpB f x y δ = R.of (f x y) δ := rfl
def bVA (x : D) (δ : Env) : R Bool := match x with
  | .bl k => .ok k δ
  | _ => .no
@[simp] theorem bV_e (m : EM) (δ : Env) : bV m δ = (fz (m δ)).bind bVA := val_fz _ _
@[simp] theorem bVA_e (k : Bool) (δ : Env) : bVA (.bl k) δ = .ok k δ := rfl
def bAndA (n : BM) (k : Bool) (δ : Env) : R Bool := if k then n δ else .ok false δ
def bOrA (n : BM) (k : Bool) (δ : Env) : R Bool := if k then .ok true δ else n δ
def bNotA (k : Bool) (δ : Env) : R Bool := .ok (!k) δ
@[simp] theorem bAnd_e (m n : BM) (δ : Env) : bAnd m n δ = (m δ).bind (bAndA n) := rfl
@[simp] theorem bOr_e (m n : BM) (δ : Env) : bOr m n δ = (m δ).bind (bOrA n) := rfl
@[simp] theorem bNot_e (m : BM) (δ : Env) : bNot m δ = (m δ).bind bNotA := rfl
@[simp] theorem bAndA_t (n : BM) (δ : Env) : bAndA n true δ = n δ := rfl
@[simp] theorem bAndA_f (n : BM) (δ : Env) : bAndA n false δ = .ok false δ := rfl
@[simp] theorem bOrA_t (n : BM) (δ : Env) : bOrA n true δ = .ok true δ := rfl
@[simp] theorem bOrA_f (n : BM) (δ : Env) : bOrA n false δ = n δ := rfl
@[simp] theorem bNotA_e (k : Bool) (δ : Env) : bNotA k δ = .ok (!k) δ := rfl
def nIfA (m n : EM) (k : Bool) (δ : Env) : R T := if k then m δ else n δ
@[simp] theorem nIf_e (t : BM) (m n : EM) (δ : Env) : nIf t m n δ = (t δ).bind (nIfA m n) := rfl
@[simp] theorem nIfA_t (m n : EM) (δ : Env) : nIfA m n true δ = m δ := rfl
@[simp] theorem nIfA_f (m n : EM) (δ : Env) : nIfA m n false δ = n δ := rfl
def nAndA (n : EM) (x : D) (δ : Env) : R T := match x with
  | .bl true => n δ
  | .bl false => .ok (.d (.bl false)) δ
  | _ => .no
def nOrA (n : EM) (x : D) (δ : Env) : R T := match x with
  | .bl true => .ok (.d (.bl true)) δ
  | .bl false => n δ
  | _ => .no
def nNotA (x : D) (δ : Env) : R T := match x with
  | .bl k => .ok (.d (.bl (!k))) δ
  | _ => .no
def nNegA (x : D) (δ : Env) : R T := match x with
  | .int i => .ok (.d (.int (-i))) δ
  | _ => .no
@[simp] theorem nAnd_e (m n : EM) (δ : Env) : nAnd m n δ = (fz (m δ)).bind (nAndA n) := val_fz _ _
@[simp] theorem nOr_e (m n : EM) (δ : Env) : nOr m n δ = (fz (m δ)).bind (nOrA n) := val_fz _ _
@[simp] theorem nNot_e (m : EM) (δ : Env) : nNot m δ = (fz (m δ)).bind nNotA := val_fz _ _
@[simp] theorem nNeg_e (m : EM) (δ : Env) : nNeg m δ = (fz (m δ)).bind nNegA := val_fz _ _
@[simp] theorem nAndA_t (n : EM) (δ : Env) : nAndA n (.bl true) δ = n δ := rfl
@[simp] theorem nAndA_f (n : EM) (δ : Env) : nAndA n (.bl false) δ = .ok (.d (.bl false)) δ := rfl
@[simp] theorem nOrA_t (n : EM) (δ : Env) : nOrA n (.bl true) δ = .ok (.d (.bl true)) δ := rfl
@[simp] theorem nOrA_f (n : EM) (δ : Env) : nOrA n (.bl false) δ = n δ := rfl
@[simp] theorem nNotA_e (k : Bool) (δ : Env) : nNotA (.bl k) δ = .ok (.d (.bl (!k))) δ := rfl
@[simp] theorem nNegA_e (i : Int) (δ : Env) : nNegA (.int i) δ = .ok (.d (.int (-i))) δ := rfl
/-! arguments, calls -/
def aConsB (t : T) (ts : List T) (δ : Env) : R (List T) := .ok (t :: ts) δ
def aConsA (r : AM) (t : T) (δ : Env) : R (List T) := (r δ).bind (aConsB t)
@[simp] theorem aNil_e (δ : Env) : aNil δ = .ok [] δ := rfl
@[simp] theorem aCons_e (m : EM) (r : AM) (δ : Env) : aCons m r δ = (m δ).bind (aConsA r) := rfl
@[simp] theorem aConsA_e (r : AM) (t : T) (δ : Env) : aConsA r t δ = (r δ).bind (aConsB t) := rfl
@[simp] theorem aConsB_e (t : T) (ts : List T) (δ : Env) : aConsB t ts δ = .ok (t :: ts) δ := rfl
def nTupA (xs : List D) (δ : Env) : R T := if xs.length ≤ 1000 then .ok (.d (.tup xs)) δ else .no
@[simp] theorem nTup_e (ms : AM) (δ : Env) : nTup ms δ = (fzs (ms δ)).bind nTupA := vals_fz _ _
@[simp] theorem nTupA_e (xs : List D) (δ : Env) : nTupA xs δ = if xs.length ≤ 1000 then .ok (.d (.tup xs)) δ else .no := rfl
def nLstA (ts : List T) (δ : Env) : R T := if ts.length ≤ 1000 then .ok (.lst ts) δ else .no
@[simp] theorem nLst_e (ms : AM) (δ : Env) : nLst ms δ = (ms δ).bind nLstA := rfl
@[simp] theorem nLstA_e (ts : List T) (δ : Env) : nLstA ts δ = if ts.length ≤ 1000 then .ok (.lst ts) δ else .no := rfl
def nCallA (f : List D → Option T) (xs : List D) (δ : Env) : R T := R.of (f xs) δ
@[simp] theorem nCall_e (f : List D → Option T) (ms : AM) (δ : Env) : nCall f ms δ = (fzs (ms δ)).bind (nCallA f) := vals_fz _ _
@[simp] theorem nCallA_e (f : List D → Option T) (xs : List D) (δ : Env) : nCallA f xs δ = R.of (f xs) δ := rfl
def nIxB (x y : D) (δ : Env) : R T := match y with
  | .int i => match itemT (.d x) i with
    | some (.d z) => .ok (.d z) δ
    | _ => .no
  | _ => .no
def nIxA (n : EM) (x : D) (δ : Env) : R T := (fz (n δ)).bind (nIxB x)
@[simp] theorem nIx_e (m n : EM) (δ : Env) : nIx m n δ = (fz (m δ)).bind (nIxA n) := by
  unfold nIx
  rw [val_fz]
  congr 1
  funext x δ1
  exact val_fz _ _
@[simp] theorem nIxA_e (n : EM) (x : D) (δ : Env) : nIxA n x δ = (fz (n δ)).bind (nIxB x) := rfl
@[simp] theorem nIxB_e (x : D) (i : Int) (δ : Env) : nIxB x (.int i) δ = lookF δ (itemT (.d x) i) := by
  unfold nIxB lookF
  rfl
def nSlA (lo hi : OM) (x : D) (δ : Env) : R T := match lo δ, hi δ with
  | some l, some h => R.of (sliceD x l h) δ
  | _, _ => .no
@[simp] theorem nSl_e (m : EM) (lo hi : OM) (δ : Env) : nSl m lo hi δ = (fz (m δ)).bind (nSlA lo hi) := val_fz _ _
@[simp] theorem nSlA_e (lo hi : OM) (x : D) (δ : Env) : nSlA lo hi x δ = match lo δ, hi δ with
  | some l, some h => R.of (sliceD x l h) δ
  | _, _ => .no := rfl
@[simp] theorem oNone_e (δ : Env) : oNone δ = some none := rfl
@[simp] theorem oSome_e (v : VM) (δ : Env) : oSome v δ = match v δ with
  | some (.d (.int i)) => some (some i)
  | _ => none := rfl
def nTx0A (f : Str → Option D) (x : D) (δ : Env) : R T := match x with
  | .str z => R.of ((f z).map T.d) δ
  | _ => .no
@[simp] theorem nTx0_e (f : Str → Option D) (m : EM) (δ : Env) : nTx0 f m δ = (fz (m δ)).bind (nTx0A f) := val_fz _ _
@[simp] theorem nTx0A_e (f : Str → Option D) (z : Str) (δ : Env) : nTx0A f (.str z) δ = R.of ((f z).map T.d) δ := rfl
@[simp] theorem nCVal_e (y : D) (δ : Env) : nCVal y δ = .ok (.d y) δ := rfl
/-! receivers, lent slots -/
def rValA (x : D) (δ : Env) : R (T × Option Nat) := .ok (.d x, none) δ
def rOwnA (t : T) (δ : Env) : R (T × Option Nat) := .ok (t, none) δ
@[simp] theorem rVal_e (m : EM) (δ : Env) : rVal m δ = (fz (m δ)).bind rValA := val_fz _ _
@[simp] theorem rValA_e (x : D) (δ : Env) : rValA x δ = .ok (.d x, none) δ := rfl
@[simp] theorem rOwn_e (m : EM) (δ : Env) : rOwn m δ = (m δ).bind rOwnA := rfl
@[simp] theorem rOwnA_e (t : T) (δ : Env) : rOwnA t δ = .ok (t, none) δ := rfl
def lendF (i : Nat) (δ : Env) : Option T → R (T × Option Nat)
  | some (.lst ts) => .ok (.lst ts, some i) (δ.set i .hole)
  | some (.dic ks ts) => .ok (.dic ks ts, some i) (δ.set i .hole)
  | some (.ins c ns ts) => .ok (.ins c ns ts, some i) (δ.set i .hole)
  | _ => .no
@[simp] theorem rLend_e (i : Nat) (δ : Env) : rLend i δ = lendF i δ δ[i]? := by
  unfold rLend lendF
  cases δ[i]? with
  | none => rfl
  | some t => cases t <;> rfl
@[simp] theorem lendF_lst (i : Nat) (δ : Env) (ts : List T) : lendF i δ (some (.lst ts)) = .ok (.lst ts, some i) (δ.set i .hole) := rfl
@[simp] theorem lendF_ins (i : Nat) (δ : Env) (c : Str) (ns : List Str) (ts : List T) : lendF i δ (some (.ins c ns ts)) = .ok (.ins c ns ts, some i) (δ.set i .hole) := rfl
def lConsB (t : T × Option Nat) (ts : List (T × Option Nat)) (δ : Env) : R (List (T × Option Nat)) := .ok (t :: ts) δ
def lConsA (r : LM) (t : T × Option Nat) (δ : Env) : R (List (T × Option Nat)) := (r δ).bind (lConsB t)
@[simp] theorem lNil_e (δ : Env) : lNil δ = .ok [] δ := rfl
@[simp] theorem lCons_e (m : RM) (r : LM) (δ : Env) : lCons m r δ = (m δ).bind (lConsA r) := rfl
@[simp] theorem lConsA_e (r : LM) (t : T × Option Nat) (δ : Env) : lConsA r t δ = (r δ).bind (lConsB t) := rfl
@[simp] theorem lConsB_e (t : T × Option Nat) (ts : List (T × Option Nat)) (δ : Env) : lConsB t ts δ = .ok (t :: ts) δ := rfl
def nCallFA (n : Nat) (io : List Nat) (dfl : List D) (F : FM) (l : List (T × Option Nat)) (δ : Env) : R T := if l.length + dfl.length = n then (F (l.map (·.1) ++ dfl.map T.d)).back l io δ else .no
@[simp] theorem nCallF_e (n : Nat) (io : List Nat) (dfl : List D) (F : FM) (lm : LM) (δ : Env) : nCallF n io dfl F lm δ = (lm δ).bind (nCallFA n io dfl F) := rfl
@[simp] theorem nCallFA_e (n : Nat) (io : List Nat) (dfl : List D) (F : FM) (l : List (T × Option Nat)) (δ : Env) : nCallFA n io dfl F l δ = if l.length + dfl.length = n then (F (l.map (·.1) ++ dfl.map T.d)).back l io δ else .no := rfl
@[simp] theorem back_ret (l : List (T × Option Nat)) (io : List Nat) (δ : Env) (t : T) (os : List T) : (FR.ret t os).back l io δ = .ok t (putBack (backs l io os) δ) := rfl
@[simp] theorem back_exn (l : List (T × Option Nat)) (io : List Nat) (δ : Env) (c : Str) (x : Exn) (os : List T) : (FR.exn c x os).back l io δ = .exn c x (putBack (backs l io os) δ) := rfl
@[simp] theorem backs_nil (l : List (T × Option Nat)) (os : List T) : backs l [] os = [] := by cases os <;> rfl
@[simp] theorem backs_none (l : List (T × Option Nat)) (io : List Nat) : backs l io [] = [] := by cases io <;> rfl
@[simp] theorem backs_cons (l : List (T × Option Nat)) (j : Nat) (io : List Nat) (t : T) (os : List T) : backs l (j :: io) (t :: os) = match l[j]? with
    | some (_, some i) => (i, t) :: backs l io os
    | _ => backs l io os := rfl
@[simp] theorem putBack_nil (δ : Env) : putBack [] δ = δ := rfl
@[simp] theorem putBack_cons (i : Nat) (t : T) (r : List (Nat × T)) (δ : Env) : putBack ((i, t) :: r) δ = putBack r (δ.set i t) := rfl
def nMakeA (c : Str) (n : Nat) (dfl : List D) (F : FM) (l : List (T × Option Nat)) (δ : Env) : R T := if (l.length + 1) + dfl.length = n then (F (.ins c [] [] :: l.map (·.1) ++ dfl.map T.d)).made δ else .no
@[simp] theorem nMake_e (c : Str) (n : Nat) (dfl : List D) (F : FM) (lm : LM) (δ : Env) : nMake c n dfl F lm δ = (lm δ).bind (nMakeA c n dfl F) := rfl
@[simp] theorem nMakeA_e (c : Str) (n : Nat) (dfl : List D) (F : FM) (l : List (T × Option Nat)) (δ : Env) : nMakeA c n dfl F l δ = if (l.length + 1) + dfl.length = n then (F (.ins c [] [] :: l.map (·.1) ++ dfl.map T.d)).made δ else .no := rfl
@[simp] theorem made_ret (δ : Env) (o : T) : (FR.ret (.d .non) [o]).made δ = .ok o δ := rfl
@[simp] theorem made_exn (δ : Env) (c : Str) (x : Exn) (os : List T) : (FR.exn c x os).made δ = .exn c x δ := rfl
def nMethB (md : Md) (r : T × Option Nat) (l : List (T × Option Nat)) (δ : Env) : R T := if (l.length + 1) + md.dfl.length = md.n then (md.F (r.1 :: l.map (·.1) ++ md.dfl.map T.d)).back (r :: l) md.io δ else .no
def nMethA (m : Str) (disp : Str → Option Md) (lm : LM) (r : T × Option Nat) (δ : Env) : R T := match insOf? r.1 with
  | some (c, ns) => match disp c with
    | some md => if ns.contains m then .no else (lm δ).bind (nMethB md r)
    | none => .no
  | none => .no
@[simp] theorem nMeth_e (m : Str) (disp : Str → Option Md) (rm : RM) (lm : LM) (δ : Env) : nMeth m disp rm lm δ = (rm δ).bind (nMethA m disp lm) := rfl
@[simp] theorem nMethA_e (m : Str) (disp : Str → Option Md) (lm : LM) (r : T × Option Nat) (δ : Env) : nMethA m disp lm r δ = match insOf? r.1 with
  | some (c, ns) => match disp c with
    | some md => if ns.contains m then .no else (lm δ).bind (nMethB md r)
    | none => .no
  | none => .no := rfl
@[simp] theorem nMethB_e (md : Md) (r : T × Option Nat) (l : List (T × Option Nat)) (δ : Env) : nMethB md r l δ = if (l.length + 1) + md.dfl.length = md.n then (md.F (r.1 :: l.map (·.1) ++ md.dfl.map T.d)).back (r :: l) md.io δ else .no := rfl
@[simp] theorem insOf_d (c : Str) (ns : List Str) (xs : List D) : insOf? (.d (.ins c ns xs)) = some (c, ns) := rfl
@[simp] theorem insOf_o (c : Str) (ns : List Str) (xs : List T) : insOf? (.ins c ns xs) = some (c, ns) := rfl
/-! statements -/
def sq (n : SM) : R Fl → R Fl
  | .ok .nx δ => n δ
  | r => r
@[simp] theorem sSeq_e (m n : SM) (δ : Env) : sSeq m n δ = sq n (m δ) := by
  unfold sSeq sq
  rfl
@[simp] theorem sq_nx (n : SM) (δ : Env) : sq n (.ok .nx δ) = n δ := rfl
@[simp] theorem sq_bk (n : SM) (δ : Env) : sq n (.ok .bk δ) = .ok .bk δ := rfl
@[simp] theorem sq_ct (n : SM) (δ : Env) : sq n (.ok .ct δ) = .ok .ct δ := rfl
@[simp] theorem sq_rt (n : SM) (t : T) (δ : Env) : sq n (.ok (.rt t) δ) = .ok (.rt t) δ := rfl
@[simp] theorem sq_exn (n : SM) (c : Str) (x : Exn) (δ : Env) : sq n (.exn c x δ) = .exn c x δ := rfl
@[simp] theorem sq_no (n : SM) : sq n .no = .no := rfl
@[simp] theorem sNx_e (δ : Env) : sNx δ = .ok .nx δ := rfl
@[simp] theorem sBk_e (δ : Env) : sBk δ = .ok .bk δ := rfl
@[simp] theorem sCt_e (δ : Env) : sCt δ = .ok .ct δ := rfl
@[simp] theorem sRetN_e (δ : Env) : sRetN δ = .ok (.rt (.d .non)) δ := rfl
def ofS : Option Env → R Fl
  | some δ => .ok .nx δ
  | none => .no
@[simp] theorem ofS_some (δ : Env) : ofS (some δ) = .ok .nx δ := rfl
def sSetA (i : Nat) (t : T) (δ : Env) : R Fl := ofS (setS i t δ)
@[simp] theorem sSet_e (i : Nat) (m : EM) (δ : Env) : sSet i m δ = (m δ).bind (sSetA i) := by
  unfold sSet
  congr 1
@[simp] theorem sSetA_e (i : Nat) (t : T) (δ : Env) : sSetA i t δ = ofS (setS i t δ) := rfl
@[simp] theorem setS_e (i : Nat) (t : T) (δ : Env) : setS i t δ = if i < δ.length then some (δ.set i t) else none := rfl
def sExpA (t : T) (δ : Env) : R Fl := .ok .nx δ
@[simp] theorem sExp_e (m : EM) (δ : Env) : sExp m δ = (m δ).bind sExpA := rfl
@[simp] theorem sExpA_e (t : T) (δ : Env) : sExpA t δ = .ok .nx δ := rfl
def sRetA (t : T) (δ : Env) : R Fl := .ok (.rt t) δ
@[simp] theorem sRet_e (m : EM) (δ : Env) : sRet m δ = (m δ).bind sRetA := rfl
@[simp] theorem sRetA_e (t : T) (δ : Env) : sRetA t δ = .ok (.rt t) δ := rfl
def sIfA (m n : SM) (k : Bool) (δ : Env) : R Fl := if k then m δ else n δ
@[simp] theorem sIf_e (t : BM) (m n : SM) (δ : Env) : sIf t m n δ = (t δ).bind (sIfA m n) := rfl
@[simp] theorem sIfA_t (m n : SM) (δ : Env) : sIfA m n true δ = m δ := rfl
@[simp] theorem sIfA_f (m n : SM) (δ : Env) : sIfA m n false δ = n δ := rfl
def sUnpA (g : GM) (x : D) (δ : Env) : R Fl := ofS (g x δ)
@[simp] theorem sUnp_e (g : GM) (m : EM) (δ : Env) : sUnp g m δ = (fz (m δ)).bind (sUnpA g) := by
  unfold sUnp
  rw [val_fz]
  congr 1
@[simp] theorem sUnpA_e (g : GM) (x : D) (δ : Env) : sUnpA g x δ = ofS (g x δ) := rfl
@[simp] theorem gN_e (i : Nat) (x : D) (δ : Env) : gN i x δ = setS i (.d x) δ := rfl
@[simp] theorem gNil_e (δ : Env) : gNil [] δ = some δ := rfl
@[simp] theorem gCons_e (g : GM) (gs : List D → Env → Option Env) (x : D) (r : List D) (δ : Env) : gCons g gs (x :: r) δ = (g x δ).bind (gs r) := rfl
@[simp] theorem gTup_e (n : Nat) (gs : List D → Env → Option Env) (xs : List D) (δ : Env) : gTup n gs (.tup xs) δ = if xs.length = n then gs xs δ else none := rfl
def sParA (i j : Nat) (ts : List T) (δ : Env) : R Fl := match ts with
  | [t, u] => ofS ((setS i t δ).bind (setS j u))
  | _ => .no
@[simp] theorem sPar_e (i j : Nat) (ms : AM) (δ : Env) : sPar i j ms δ = (ms δ).bind (sParA i j) := by
  unfold sPar
  congr 1
@[simp] theorem sParA_e (i j : Nat) (t u : T) (δ : Env) : sParA i j [t, u] δ = ofS ((setS i t δ).bind (setS j u)) := rfl
def setFF (cl : Str → Bool) (i : Nat) (f : Str) (t : T) (δ : Env) : Option T → R Fl
  | some (.ins c ns ts) => if cl c = true ∧ ns.length < 1000 then .ok .nx (δ.set i (.ins c (putNs f ns) (putXs f t ns ts))) else .no
  | _ => .no
def sSetFA (cl : Str → Bool) (i : Nat) (f : Str) (t : T) (δ : Env) : R Fl := setFF cl i f t δ δ[i]?
@[simp] theorem sSetF_e (cl : Str → Bool) (i : Nat) (f : Str) (m : EM) (δ : Env) : sSetF cl i f m δ = (m δ).bind (sSetFA cl i f) := by
  unfold sSetF
  congr 1
@[simp] theorem sSetFA_e (cl : Str → Bool) (i : Nat) (f : Str) (t : T) (δ : Env) : sSetFA cl i f t δ = setFF cl i f t δ δ[i]? := rfl
@[simp] theorem setFF_e (cl : Str → Bool) (i : Nat) (f : Str) (t : T) (δ : Env) (c : Str) (ns : List Str) (ts : List T) : setFF cl i f t δ (some (.ins c ns ts)) = if cl c = true ∧ ns.length < 1000 then .ok .nx (δ.set i (.ins c (putNs f ns) (putXs f t ns ts))) else .no := rfl
def setXX (i : Nat) (t : T) (δ : Env) : Option T → Option T → R Fl
  | some (.lst ts), some (.d (.int k)) => match ixN ts.length k with
    | some j => .ok .nx (δ.set i (.lst (ts.set j t)))
    | none => .no
  | _, _ => .no
def sSetIxA (i : Nat) (n : VM) (t : T) (δ : Env) : R Fl := setXX i t δ δ[i]? (n δ)
@[simp] theorem sSetIx_e (i : Nat) (n : VM) (m : EM) (δ : Env) : sSetIx i n m δ = (m δ).bind (sSetIxA i n) := by
  unfold sSetIx
  congr 1
@[simp] theorem sSetIxA_e (i : Nat) (n : VM) (t : T) (δ : Env) : sSetIxA i n t δ = setXX i t δ δ[i]? (n δ) := rfl
@[simp] theorem setXX_e (i : Nat) (t : T) (δ : Env) (ts : List T) (k : Int) : setXX i t δ (some (.lst ts)) (some (.d (.int k))) = match ixN ts.length k with
    | some j => .ok .nx (δ.set i (.lst (ts.set j t)))
    | none => .no := rfl
def appF (i : Nat) (t : T) (δ : Env) : Option T → R T
  | some (.lst ts) => if ts.length < szL then .ok (.d .non) (δ.set i (.lst (ts ++ [t]))) else .no
  | _ => .no
def nAppA (i : Nat) (t : T) (δ : Env) : R T := appF i t δ δ[i]?
def appG (i : Nat) (m : EM) (δ : Env) : Option T → R T
  | some (.lst _) => (m δ).bind (nAppA i)
  | _ => .no
@[simp] theorem nAppL_e (i : Nat) (m : EM) (δ : Env) : nAppL i m δ = appG i m δ δ[i]? := by
  unfold nAppL appG
  cases δ[i]? with
  | none => rfl
  | some t =>
    cases t <;> first
      | rfl
      | (unfold nApp; rfl)
@[simp] theorem appG_e (i : Nat) (m : EM) (δ : Env) (ts : List T) : appG i m δ (some (.lst ts)) = (m δ).bind (nAppA i) := rfl
@[simp] theorem nAppA_e (i : Nat) (t : T) (δ : Env) : nAppA i t δ = appF i t δ δ[i]? := rfl
@[simp] theorem appF_e (i : Nat) (t : T) (δ : Env) (ts : List T) : appF i t δ (some (.lst ts)) = if ts.length < szL then .ok (.d .non) (δ.set i (.lst (ts ++ [t]))) else .no := rfl
/-! loops -/
def lpB (g : GM) (body : SM) (dr : List Nat) (xs : List D) : R Fl → R Fl
  | .ok .nx δ => loopD g body dr xs (forget dr δ)
  | .ok .ct δ => loopD g body dr xs (forget dr δ)
  | .ok .bk δ => .ok .nx δ
  | r => r
def lpA (g : GM) (body : SM) (dr : List Nat) (xs : List D) : Option Env → R Fl
  | some δ => lpB g body dr xs (body δ)
  | none => .no
@[simp] theorem sFor_e (m : IM) (g : GM) (dr : List Nat) (body : SM) (δ : Env) : sFor m g dr body δ = (m δ).bind (loopD g body dr) := rfl
@[simp] theorem loopD_nil (g : GM) (body : SM) (dr : List Nat) (δ : Env) : loopD g body dr [] δ = .ok .nx δ := rfl
theorem loopD_cons (g : GM) (body : SM) (dr : List Nat) (x : D) (xs : List D) (δ : Env) : loopD g body dr (x :: xs) δ = lpA g body dr xs (g x δ) := by
  unfold loopD lpA
  cases g x δ with
  | none => rfl
  | some δ1 =>
    dsimp only
    unfold lpB
    rfl
@[simp] theorem lpA_e (g : GM) (body : SM) (dr : List Nat) (xs : List D) (δ : Env) : lpA g body dr xs (some δ) = lpB g body dr xs (body δ) := rfl
@[simp] theorem lpB_nx (g : GM) (body : SM) (dr : List Nat) (xs : List D) (δ : Env) : lpB g body dr xs (.ok .nx δ) = loopD g body dr xs (forget dr δ) := rfl
@[simp] theorem lpB_ct (g : GM) (body : SM) (dr : List Nat) (xs : List D) (δ : Env) : lpB g body dr xs (.ok .ct δ) = loopD g body dr xs (forget dr δ) := rfl
@[simp] theorem lpB_bk (g : GM) (body : SM) (dr : List Nat) (xs : List D) (δ : Env) : lpB g body dr xs (.ok .bk δ) = .ok .nx δ := rfl
@[simp] theorem lpB_rt (g : GM) (body : SM) (dr : List Nat) (xs : List D) (t : T) (δ : Env) : lpB g body dr xs (.ok (.rt t) δ) = .ok (.rt t) δ := rfl
@[simp] theorem lpB_exn (g : GM) (body : SM) (dr : List Nat) (xs : List D) (c : Str) (x : Exn) (δ : Env) : lpB g body dr xs (.exn c x δ) = .exn c x δ := rfl
@[simp] theorem lpB_no (g : GM) (body : SM) (dr : List Nat) (xs : List D) : lpB g body dr xs .no = .no := rfl
@[simp] theorem forget_nil (δ : Env) : forget [] δ = δ := rfl
@[simp] theorem forget_cons (i : Nat) (r : List Nat) (δ : Env) : forget (i :: r) δ = forget r (δ.set i .hole) := rfl
def iLstA (x : D) (δ : Env) : R (List D) := match x with
  | .lst xs => .ok xs δ
  | .scr xs => .ok xs δ
  | _ => .no
def iTpA (x : D) (δ : Env) : R (List D) := match x with
  | .tup xs => .ok xs δ
  | _ => .no
def iStrA (x : D) (δ : Env) : R (List D) := match x with
  | .str s => .ok (chsD s) δ
  | _ => .no
@[simp] theorem iLst_e (m : EM) (δ : Env) : iLst m δ = (fz (m δ)).bind iLstA := val_fz _ _
@[simp] theorem iLstA_l (xs : List D) (δ : Env) : iLstA (.lst xs) δ = .ok xs δ := rfl
@[simp] theorem iLstA_s (xs : List D) (δ : Env) : iLstA (.scr xs) δ = .ok xs δ := rfl
@[simp] theorem iTp_e (m : EM) (δ : Env) : iTp m δ = (fz (m δ)).bind iTpA := val_fz _ _
@[simp] theorem iTpA_e (xs : List D) (δ : Env) : iTpA (.tup xs) δ = .ok xs δ := rfl
@[simp] theorem iStrD_e (m : EM) (δ : Env) : iStrD m δ = (fz (m δ)).bind iStrA := val_fz _ _
@[simp] theorem iStrA_e (s : Str) (δ : Env) : iStrA (.str s) δ = .ok (chsD s) δ := rfl
def iR1A (xs : List D) (δ : Env) : R (List D) := match xs with
  | [.int j] => if -(2 ^ 62) ≤ j ∧ j < 2 ^ 62 then .ok (rngD 0 j.toNat) δ else .no
  | _ => .no
def iR2A (xs : List D) (δ : Env) : R (List D) := match xs with
  | [.int i, .int j] => if -(2 ^ 62) ≤ i ∧ i < 2 ^ 62 ∧ -(2 ^ 62) ≤ j ∧ j < 2 ^ 62 then .ok (rngD i (j - i).toNat) δ else .no
  | _ => .no
def iEnA (xs : List D) (δ : Env) : R (List D) := match xs with
  | [x] => match lstOf? x with
    | some ys => .ok (enumD ys) δ
    | none => .no
  | _ => .no
@[simp] theorem iR1_e (ms : AM) (δ : Env) : iR1 ms δ = (fzs (ms δ)).bind iR1A := vals_fz _ _
@[simp] theorem iR1A_e (j : Int) (δ : Env) : iR1A [.int j] δ = if -(2 ^ 62) ≤ j ∧ j < 2 ^ 62 then .ok (rngD 0 j.toNat) δ else .no := rfl
@[simp] theorem iR2_e (ms : AM) (δ : Env) : iR2 ms δ = (fzs (ms δ)).bind iR2A := vals_fz _ _
@[simp] theorem iR2A_e (i j : Int) (δ : Env) : iR2A [.int i, .int j] δ = if -(2 ^ 62) ≤ i ∧ i < 2 ^ 62 ∧ -(2 ^ 62) ≤ j ∧ j < 2 ^ 62 then .ok (rngD i (j - i).toNat) δ else .no := rfl
@[simp] theorem iEn_e (ms : AM) (δ : Env) : iEn ms δ = (fzs (ms δ)).bind iEnA := vals_fz _ _
@[simp] theorem iEnA_l (ys : List D) (δ : Env) : iEnA [.lst ys] δ = .ok (enumD ys) δ := rfl
@[simp] theorem iEnA_s (ys : List D) (δ : Env) : iEnA [.scr ys] δ = .ok (enumD ys) δ := rfl
/-! match, exceptions -/
def sMatchA (m : Str → SM) (x : D) (δ : Env) : R Fl := match x with
  | .str z => m z δ
  | _ => .no
@[simp] theorem sMatch_e (e : EM) (m : Str → SM) (δ : Env) : sMatch e m δ = (fz (e δ)).bind (sMatchA m) := val_fz _ _
@[simp] theorem sMatchA_e (m : Str → SM) (z : Str) (δ : Env) : sMatchA m (.str z) δ = m z δ := rfl
@[simp] theorem mcNil_e (z : Str) (δ : Env) : mcNil z δ = .ok .nx δ := rfl
theorem mcStr_y {c z : Str} (m : SM) (r : Str → SM) (δ : Env) (h : z = c) : mcStr c m r z δ = m δ := by unfold mcStr; rw [if_pos h]
theorem mcStr_n {c z : Str} (m : SM) (r : Str → SM) (δ : Env) (h : z ≠ c) : mcStr c m r z δ = r z δ := by unfold mcStr; rw [if_neg h]
@[simp] theorem mcAny_e (m : SM) (z : Str) (δ : Env) : mcAny m z δ = m δ := rfl
def sRaiseA (c : Str) (n : Nat) (dfl : List D) (sts : List (Str × Nat)) (xs : List D) (δ1 : Env) : R Fl := if (xs ++ dfl).length = n ∧ xs.length ≤ 1000 ∧ (∀ p ∈ sts, p.2 - 1 < n) then
  .exn c (some ((xfD (xs ++ dfl) sts []).map (·.1), (xfD (xs ++ dfl) sts []).map (·.2))) δ1 else .no
@[simp] theorem sRaise_e (c : Str) (n : Nat) (dfl : List D) (sts : List (Str × Nat)) (ms : AM) (δ : Env) : sRaise c n dfl sts ms δ = (fzs (ms δ)).bind (sRaiseA c n dfl sts) := vals_fz _ _
@[simp] theorem sRaiseA_e (c : Str) (n : Nat) (dfl : List D) (sts : List (Str × Nat)) (xs : List D) (δ1 : Env) : sRaiseA c n dfl sts xs δ1 = if (xs ++ dfl).length = n ∧ xs.length ≤ 1000 ∧ (∀ p ∈ sts, p.2 - 1 < n) then
  .exn c (some ((xfD (xs ++ dfl) sts []).map (·.1), (xfD (xs ++ dfl) sts []).map (·.2))) δ1 else .no := rfl
def tryA (cl : Str → Option Bool) (i : Nat) (su : Str → Exn → SM) : R Fl → R Fl
  | .exn c x δ1 => match cl c with
    | some true => if T.plains (δ1.set i .hole) = true ∧ i < δ1.length then unset i (su c x (δ1.set i .exc)) else .no
    | some false => .exn c x δ1
    | none => .no
  | r => r
@[simp] theorem sTryAs_e (m : SM) (cl : Str → Option Bool) (i : Nat) (su : Str → Exn → SM) (δ : Env) : sTryAs m cl i su δ = tryA cl i su (m δ) := by
  unfold sTryAs tryA
  cases m δ <;> rfl
@[simp] theorem tryA_ok (cl : Str → Option Bool) (i : Nat) (su : Str → Exn → SM) (f : Fl) (δ : Env) : tryA cl i su (.ok f δ) = .ok f δ := rfl
theorem tryA_y {cl : Str → Option Bool} {c : Str} (i : Nat) (su : Str → Exn → SM) (x : Exn) (δ1 : Env) (h : cl c = some true) : tryA cl i su (.exn c x δ1) = if T.plains (δ1.set i .hole) = true ∧ i < δ1.length then unset i (su c x (δ1.set i .exc)) else .no := by
  unfold tryA
  simp only [h]
theorem tryA_n {cl : Str → Option Bool} {c : Str} (i : Nat) (su : Str → Exn → SM) (x : Exn) (δ1 : Env) (h : cl c = some false) : tryA cl i su (.exn c x δ1) = .exn c x δ1 := by
  unfold tryA
  simp only [h]
@[simp] theorem unset_nx (i : Nat) (δ : Env) : unset i (.ok .nx δ) = if T.plains (δ.set i .hole) = true then .ok .nx (δ.set i .hole) else .no := rfl
@[simp] theorem unset_rt (i : Nat) (t : T) (δ : Env) : unset i (.ok (.rt t) δ) = if T.plains (δ.set i .hole) = true ∧ t.plain = true then .ok (.rt t) (δ.set i .hole) else .no := rfl
@[simp] theorem plains_nil : T.plains [] = true := rfl
@[simp] theorem plains_cons (t : T) (r : List T) : T.plains (t :: r) = (t.plain && T.plains r) := by
  conv => lhs; unfold T.plains
@[simp] theorem plain_d (x : D) : (T.d x).plain = true := by unfold T.plain; rfl
@[simp] theorem plain_hole : T.hole.plain = true := by unfold T.plain; rfl
@[simp] theorem plain_lst (ts : List T) : (T.lst ts).plain = T.plains ts := by conv => lhs; unfold T.plain
@[simp] theorem plain_ins (c : Str) (ns : List Str) (ts : List T) : (T.ins c ns ts).plain = T.plains ts := by conv => lhs; unfold T.plain
def isXF (c : Str) (tb : ITab) : Option T → Option T → Option T
  | some .exc, some (.d y) => match clD y with
    | some b => (tb.get (.c c) b).map fun k => .d (.bl k)
    | none => none
  | _, _ => none
@[simp] theorem vIsX_e (i : Nat) (c : Str) (tb : ITab) (n : VM) (δ : Env) : vIsX i c tb n δ = isXF c tb δ[i]? (n δ) := by
  unfold vIsX isXF
  rfl
@[simp] theorem isXF_c (c s : Str) (tb : ITab) : isXF c tb (some .exc) (some (.d (.cls s))) = (tb.get (.c c) (.c s)).map fun k => .d (.bl k) := rfl
@[simp] theorem isXF_t (c : Str) (n : String) (tb : ITab) : isXF c tb (some .exc) (some (.d (.ty n))) = (tb.get (.c c) (.b n)).map fun k => .d (.bl k) := rfl
def xfF (f : Str) : Option T → Exn → Option T
  | some .exc, some (ns, xs) => (zlk f ns xs).map bord
  | _, _ => none
@[simp] theorem vXf_e (i : Nat) (x : Exn) (f : Str) (δ : Env) : vXf i x f δ = xfF f δ[i]? x := by
  unfold vXf xfF
  rfl
@[simp] theorem xfF_e (f : Str) (ns : List Str) (xs : List D) : xfF f (some .exc) (some (ns, xs)) = (zlk f ns xs).map bord := rfl
@[simp] theorem bord_s (z : Str) : bord (.str z) = .d (.str z) := rfl
@[simp] theorem bord_i (z : Int) : bord (.int z) = .d (.int z) := rfl
@[simp] theorem bord_n : bord .non = .d .non := rfl
@[simp] theorem bord_b (z : Bool) : bord (.bl z) = .d (.bl z) := rfl
@[simp] theorem xfD_nil (us : List D) (acc : List (Str × D)) : xfD us [] acc = acc := rfl
@[simp] theorem xfD_cons (us : List D) (f : Str) (j : Nat) (r : List (Str × Nat)) (acc : List (Str × D)) : xfD us ((f, j) :: r) acc = xfD us r ((f, us.getD (j - 1) .non) :: acc) := rfl
/-! defs -/
def finR (io : List Nat) : R Fl → FR
  | .ok .nx δ => .ret (.d .non) (outs io δ)
  | .ok (.rt t) δ => .ret t (outs io δ)
  | .ok _ _ => .no
  | .exn c x δ => .exn c x (outs io δ)
  | .no => .no
theorem mkF_e (n : Nat) (io : List Nat) (m : SM) (ts : List T) : mkF n io m ts = finR io (m (ts ++ List.replicate (n - ts.length) .hole)) := by
  unfold mkF finR
  rfl
@[simp] theorem fin_nx (io : List Nat) (δ : Env) : finR io (.ok .nx δ) = .ret (.d .non) (outs io δ) := rfl
@[simp] theorem fin_rt (io : List Nat) (t : T) (δ : Env) : finR io (.ok (.rt t) δ) = .ret t (outs io δ) := rfl
@[simp] theorem fin_exn (io : List Nat) (c : Str) (x : Exn) (δ : Env) : finR io (.exn c x δ) = .exn c x (outs io δ) := rfl
@[simp] theorem outs_nil (δ : Env) : outs [] δ = [] := rfl
@[simp] theorem outs_cons (i : Nat) (r : List Nat) (δ : Env) : outs (i :: r) δ = δ.getD i .hole :: outs r δ := rfl
/-! operators on data -/
@[simp] theorem fMod_i {i j : Int} (h : 0 < j) : fMod (.int i) (.int j) = some (.d (.int (i % j))) := if_pos h
theorem log2_lt {n k : Nat} (h : n < 2 ^ k) (hk : 0 < k) : n.log2 < k := by
  by_cases h0 : n = 0
  · rw [h0]; simpa using hk
  · exact (Nat.log2_lt h0).mpr h
@[simp] theorem fDiv_i {i j : Int} (h : 0 < j) (h2 : j < 18446744073709551616) : fDiv (.int i) (.int j) = some (.d (.int (i / j))) := if_pos ⟨h, Nat.lt_trans (log2_lt (k := 64) (by omega) (by decide)) (by decide)⟩
@[simp] theorem fPow_i {i j : Int} (h0 : 0 ≤ j) (h1 : j ≤ 1000000) (h : i.natAbs < 18446744073709551616) : fPow (.int i) (.int j) = some (.d (.int (i ^ j.toNat))) := if_pos ⟨h0, h1, h⟩
theorem fMul_i {i j : Int} (hi : i.natAbs < 2 ^ 400000) (hj : j.natAbs < 2 ^ 400000) : fMul (.int i) (.int j) = some (.d (.int (i * j))) := by
  have a := log2_lt hi (by decide)
  have b := log2_lt hj (by decide)
  exact if_pos (by omega)
theorem fMul_s {i j : Int} (hi : i.natAbs < 340282366920938463463374607431768211456) (hj : j.natAbs < 340282366920938463463374607431768211456) : fMul (.int i) (.int j) = some (.d (.int (i * j))) := by
  have a := log2_lt (n := i.natAbs) (k := 128) (by omega) (by decide)
  have b := log2_lt (n := j.natAbs) (k := 128) (by omega) (by decide)
  exact if_pos (by omega)

@[simp] theorem fGt_i (i j : Int) : fGt (.int i) (.int j) = some (.d (.bl (decide (j < i)))) := rfl
@[simp] theorem fLt_i (i j : Int) : fLt (.int i) (.int j) = some (.d (.bl (decide (i < j)))) := rfl
@[simp] theorem fLe_i (i j : Int) : fLe (.int i) (.int j) = some (.d (.bl (decide (i ≤ j)))) := rfl
@[simp] theorem fGe_i (i j : Int) : fGe (.int i) (.int j) = some (.d (.bl (decide (j ≤ i)))) := rfl
@[simp] theorem fAdd_i (i j : Int) : fAdd (.int i) (.int j) = some (.d (.int (i + j))) := rfl
@[simp] theorem fAdd_s (x y : Str) : fAdd (.str x) (.str y) = if x.length + y.length ≤ szL then some (.d (.str (x ++ y))) else none := rfl
@[simp] theorem fSub_i (i j : Int) : fSub (.int i) (.int j) = some (.d (.int (i - j))) := rfl
@[simp] theorem fAbs_i (i : Int) : fAbs [.int i] = some (.d (.int (if i < 0 then -i else i))) := rfl
@[simp] theorem fInt_i (i : Int) : fInt [.int i] = some (.d (.int i)) := rfl
@[simp] theorem fMax_i (i j : Int) : fMax [.int i, .int j] = some (.d (.int (if j > i then j else i))) := rfl
@[simp] theorem fMin_i (i j : Int) : fMin [.int i, .int j] = some (.d (.int (if j < i then j else i))) := rfl
@[simp] theorem fLen_e (x : D) : fLen [x] = (lenD x).map fun (n : Nat) => T.d (.int (n : Int)) := rfl
@[simp] theorem gLen_e (x : D) : gLen [x] = (lenD x).map fun (n : Nat) => D.int (n : Int) := rfl
@[simp] theorem lenD_l (xs : List D) : lenD (.lst xs) = some xs.length := rfl
@[simp] theorem lenD_s (xs : List D) : lenD (.scr xs) = some xs.length := rfl
@[simp] theorem lenD_t (xs : List D) : lenD (.tup xs) = some xs.length := rfl
@[simp] theorem lenD_str (y : Str) : lenD (.str y) = if y.length ≤ szL then some y.length else none := rfl
@[simp] theorem fEq_i (i j : Int) : fEq (.int i) (.int j) = some (.d (.bl (i == j))) := rfl
@[simp] theorem fEq_s (i j : Str) : fEq (.str i) (.str j) = some (.d (.bl (i == j))) := rfl
@[simp] theorem fEq_b (i j : Bool) : fEq (.bl i) (.bl j) = some (.d (.bl (i == j))) := rfl
@[simp] theorem fNe_i (i j : Int) : fNe (.int i) (.int j) = some (.d (.bl (!(i == j)))) := rfl
@[simp] theorem fNe_s (i j : Str) : fNe (.str i) (.str j) = some (.d (.bl (!(i == j)))) := rfl
@[simp] theorem fNe_b (i j : Bool) : fNe (.bl i) (.bl j) = some (.d (.bl (!(i == j)))) := rfl
theorem flats_strs : ∀ (l : List Str), flats? (l.map D.str) = some (l.map V.str)
  | [] => rfl
  | x :: r => by simp [flats?, flat?, flats_strs r]
theorem inV_strs (z : Str) (l : List Str) : inV (.str z) (l.map V.str) = decide (z ∈ l) := by
  induction l with
  | nil => rfl
  | cons x r ih =>
    have e : inV (.str z) ((x :: r).map V.str) = ((x == z) || inV (.str z) (r.map V.str)) := by
      first
        | rfl
        | simp [inV, eqV]
    rw [e, ih]
    by_cases h : x = z
    · subst h
      simp
    · have h2 : z ≠ x := fun q => h q.symm
      simp [h, h2]
theorem fIn_strs (z : Str) (l : List Str) : fIn (.str z) (.lst (l.map D.str)) = some (.d (.bl (decide (z ∈ l)))) := by
  show ((match flat? (D.str z), flats? (l.map D.str) with
    | some v, some vs => some (inV v vs)
    | _, _ => none).map fun k => T.d (.bl k)) = _
  rw [flats_strs]
  show some (T.d (.bl (inV (.str z) (l.map V.str)))) = _
  rw [inV_strs]
@[simp] theorem fIs_e (x : D) : fIs x .non = some (.d (.bl (isN x))) := rfl
@[simp] theorem fIsNot_e (x : D) : fIsNot x .non = some (.d (.bl (!isN x))) := rfl
/-! ### the law's end -/
theorem cx_false {P : Program} {w : World} {H : Hp} {s : Shared} {e : Value} {s' : Shared} (h : L2.CX P w [] H s (fun _ _ _ => False) e s') : False := by
  obtain ⟨a, B, H', cls, d, h⟩ := h
  simp at h
theorem walk_W {l : PySem.W.OpenLaw} {n k : Nat} {q : Program} {loose : List Str} {XP : (Str → Option Value) → Heap → Prop} {YP : World → Heap → Prop} {d : DefRec} {x : Str} {F : FM}
    (hn : l.most = some n) (hn2 : n ≤ sizeLine) (hdf : d.params.defaults = []) (hr : Room k callerA) (hF : ∀ ns : List Int, ns.length ≤ n → F [.d (.scr (ns.map D.int))] = .ret (.d (.bl true)) [])
    (hw : ∀ (w : World) (mg : Str → Option Value) (fa : Addr) (h : Heap), YP w h → h.Ns mainGlobals mg → mg d.name = some (.ref fa) →
      ∃ (K : PySem.W.Frag) (fd : FuncData), K.In h ∧ (∀ (s : Shared) (u : Value), BindsTo s fd ⟨[u], []⟩ [(x, u)]) ∧ ∀ base : Heap, K.In base → base.Ns mainGlobals mg → FnOk l.prog w K mg base (L2.CX l.prog w) k fa fd [x] (spF K 1 [] F)) :
    PySem.W.WalkO q loose XP YP l.row.toRowW d [] (fun f vs => PySem.call f vs) := by
  refine Att.attach_call hn hdf fun w s₀ s₁ mg mb fa o pm cd doc a vs ns G Y ho hd hcd hmg hobj hints hlen hg => ?_
  obtain ⟨K, fd, KX, hb, hok⟩ := hw w mg fa _ Y G.T.g hmg
  exact law_call KX G.T.g G.T.b G.T.builtins G.T.nolimit hg hobj hints (Nat.le_trans hlen hn2) hr hok hb (fun H _ hS => law_sp (hF ns hlen) H a hS) fun H e s' z => cx_false z
end L2.DL

namespace L2.DL.W_k57
open PySem PySem.Spec PyProof.Rows L2 L2.DL
/-! ### the text -/
def top (i : Nat) : Stmt := PySem.Challenge.pw_untilrows_k57_operations_told.main.body.getD i (.Pass ⟨0, 0, 0, 0⟩)
def sub (i j : Nat) : Stmt := match top i with
  | .ClassDef _ _ _ b _ _ _ _ _ _ _ => b.getD j (.Pass ⟨0, 0, 0, 0⟩)
  | _ => .Pass ⟨0, 0, 0, 0⟩
abbrev s__law_op_words : Stmt := top 20
abbrev s_Unknown____init__ : Stmt := sub 3 0
abbrev s_Operation____init__ : Stmt := sub 5 1
abbrev s_operation : Stmt := top 14
abbrev s__law_is_number : Stmt := top 19
abbrev s__law_are_told : Stmt := top 23
abbrev s__law_refused : Stmt := top 22
abbrev s__law_take : Stmt := top 17
abbrev s__law_of : Stmt := top 18
abbrev s__law_other_word : Stmt := top 21
abbrev s__law_bag : Stmt := top 16
abbrev s_law : Stmt := top 24
def cl_named : Str → Bool := fun c => (["Operation", "EndFrom", "SetFrom", "Fill", "Clear", "Between", "Take", "Give", "Move"] : List Str).contains c
def cl_two_days : Str → Bool := fun c => (["Operation", "EndFrom", "SetFrom", "Fill", "Clear", "Between", "Take", "Give", "Move"] : List Str).contains c
def cl_word : Str → Bool := fun c => (["Operation", "EndFrom", "SetFrom", "Fill", "Clear", "Between", "Take", "Give", "Move"] : List Str).contains c
def cv_Operation_WORDS : D := .tup [.str "set", .str "end", .str "fill", .str "between", .str "clear", .str "take", .str "give", .str "move"]
def itab : ITab := [(.b "NoneType", .c "Operation", false), (.b "bool", .c "Operation", false), (.b "int", .c "Operation", false), (.b "str", .c "Operation", false), (.b "tuple", .c "Operation", false), (.b "list", .c "Operation", false), (.c "Operation", .c "Operation", true), (.c "EndFrom", .c "Operation", true), (.c "SetFrom", .c "Operation", true), (.c "Fill", .c "Operation", true), (.c "Clear", .c "Operation", true), (.c "Between", .c "Operation", true), (.c "Take", .c "Operation", true), (.c "Give", .c "Operation", true), (.c "Move", .c "Operation", true), (.b "NoneType", .b "bool", false), (.b "bool", .b "bool", true), (.b "int", .b "bool", false), (.b "str", .b "bool", false), (.b "tuple", .b "bool", false), (.b "list", .b "bool", false), (.c "Operation", .b "bool", false), (.c "EndFrom", .b "bool", false), (.c "SetFrom", .b "bool", false), (.c "Fill", .b "bool", false), (.c "Clear", .b "bool", false), (.c "Between", .b "bool", false), (.c "Take", .b "bool", false), (.c "Give", .b "bool", false), (.c "Move", .b "bool", false), (.b "NoneType", .b "int", false), (.b "bool", .b "int", true), (.b "int", .b "int", true), (.b "str", .b "int", false), (.b "tuple", .b "int", false), (.b "list", .b "int", false), (.c "Operation", .b "int", false), (.c "EndFrom", .b "int", false), (.c "SetFrom", .b "int", false), (.c "Fill", .b "int", false), (.c "Clear", .b "int", false), (.c "Between", .b "int", false), (.c "Take", .b "int", false), (.c "Give", .b "int", false), (.c "Move", .b "int", false), (.b "NoneType", .b "str", false), (.b "bool", .b "str", false), (.b "int", .b "str", false), (.b "str", .b "str", true), (.b "tuple", .b "str", false), (.b "list", .b "str", false), (.c "Operation", .b "str", false), (.c "EndFrom", .b "str", false), (.c "SetFrom", .b "str", false), (.c "Fill", .b "str", false), (.c "Clear", .b "str", false), (.c "Between", .b "str", false), (.c "Take", .b "str", false), (.c "Give", .b "str", false), (.c "Move", .b "str", false), (.b "NoneType", .b "tuple", false), (.b "bool", .b "tuple", false), (.b "int", .b "tuple", false), (.b "str", .b "tuple", false), (.b "tuple", .b "tuple", true), (.b "list", .b "tuple", false), (.c "Operation", .b "tuple", false), (.c "EndFrom", .b "tuple", false), (.c "SetFrom", .b "tuple", false), (.c "Fill", .b "tuple", false), (.c "Clear", .b "tuple", false), (.c "Between", .b "tuple", false), (.c "Take", .b "tuple", false), (.c "Give", .b "tuple", false), (.c "Move", .b "tuple", false)]
def itx : ITab := [(.c "RowsError", .c "Operation", false), (.c "Unknown", .c "Operation", false), (.c "RowsError", .c "RowsError", true), (.c "Unknown", .c "RowsError", true), (.c "RowsError", .b "ValueError", true), (.c "Unknown", .b "ValueError", true), (.c "RowsError", .b "bool", false), (.c "Unknown", .b "bool", false), (.c "RowsError", .b "int", false), (.c "Unknown", .b "int", false), (.c "RowsError", .b "str", false), (.c "Unknown", .b "str", false), (.c "RowsError", .b "tuple", false), (.c "Unknown", .b "tuple", false)]
def xcb_Unknown : List (Str × Bool) := [("Unknown", true)]
def xcl_Unknown : Str → Option Bool := lkp xcb_Unknown
def sts_Unknown : List (Str × Nat) := [("word", 1)]
def d__law_op_words : He.DefD := ⟨("_law_op_words", none), "_law_op_words", "_law_op_words", defArgs s__law_op_words, defBody s__law_op_words, defScope s__law_op_words, [], []⟩
def d_Unknown____init__ : He.DefD := ⟨("Unknown", some "__init__"), "__init__", "Unknown.__init__", defArgs s_Unknown____init__, defBody s_Unknown____init__, defScope s_Unknown____init__, [], []⟩
def d_Operation____init__ : He.DefD := ⟨("Operation", some "__init__"), "__init__", "Operation.__init__", defArgs s_Operation____init__, defBody s_Operation____init__, defScope s_Operation____init__, [], []⟩
def d_operation : He.DefD := ⟨("operation", none), "operation", "operation", defArgs s_operation, defBody s_operation, defScope s_operation, [], []⟩
def d__law_is_number : He.DefD := ⟨("_law_is_number", none), "_law_is_number", "_law_is_number", defArgs s__law_is_number, defBody s__law_is_number, defScope s__law_is_number, [], []⟩
def d__law_are_told : He.DefD := ⟨("_law_are_told", none), "_law_are_told", "_law_are_told", defArgs s__law_are_told, defBody s__law_are_told, defScope s__law_are_told, [], []⟩
def d__law_refused : He.DefD := ⟨("_law_refused", none), "_law_refused", "_law_refused", defArgs s__law_refused, defBody s__law_refused, defScope s__law_refused, [], []⟩
def d__law_take : He.DefD := ⟨("_law_take", none), "_law_take", "_law_take", defArgs s__law_take, defBody s__law_take, defScope s__law_take, [], []⟩
def d__law_of : He.DefD := ⟨("_law_of", none), "_law_of", "_law_of", defArgs s__law_of, defBody s__law_of, defScope s__law_of, [], []⟩
def d__law_other_word : He.DefD := ⟨("_law_other_word", none), "_law_other_word", "_law_other_word", defArgs s__law_other_word, defBody s__law_other_word, defScope s__law_other_word, [], []⟩
def d__law_bag : He.DefD := ⟨("_law_bag", none), "_law_bag", "_law_bag", defArgs s__law_bag, defBody s__law_bag, defScope s__law_bag, [], []⟩
def d_law : He.DefD := ⟨("law", none), "law", "law", defArgs s_law, defBody s_law, defScope s_law, [], []⟩
def fnl : List He.DefD := [d__law_op_words, d_Unknown____init__, d_Operation____init__, d_operation, d__law_is_number, d__law_are_told, d__law_refused, d__law_take, d__law_of, d__law_other_word, d__law_bag, d_law]
def xfl_Unknown : List Str := ["word"]
structure Facts (K : PySem.W.Frag) (mg : Str → Option Value) : Prop where
  g_Between : mg "Between" = some (.ref (He.ga K "Between"))
  g_Clear : mg "Clear" = some (.ref (He.ga K "Clear"))
  g_EndFrom : mg "EndFrom" = some (.ref (He.ga K "EndFrom"))
  g_Fill : mg "Fill" = some (.ref (He.ga K "Fill"))
  g_Give : mg "Give" = some (.ref (He.ga K "Give"))
  g_Move : mg "Move" = some (.ref (He.ga K "Move"))
  g_Operation : mg "Operation" = some (.ref (He.ga K "Operation"))
  g_RowsError : mg "RowsError" = some (.ref (He.ga K "RowsError"))
  g_SetFrom : mg "SetFrom" = some (.ref (He.ga K "SetFrom"))
  g_Take : mg "Take" = some (.ref (He.ga K "Take"))
  g_Unknown : mg "Unknown" = some (.ref (He.ga K "Unknown"))
  g__law_are_told : mg "_law_are_told" = some (.ref (He.ga K "_law_are_told"))
  g__law_bag : mg "_law_bag" = some (.ref (He.ga K "_law_bag"))
  g__law_is_number : mg "_law_is_number" = some (.ref (He.ga K "_law_is_number"))
  g__law_of : mg "_law_of" = some (.ref (He.ga K "_law_of"))
  g__law_op_words : mg "_law_op_words" = some (.ref (He.ga K "_law_op_words"))
  g__law_other_word : mg "_law_other_word" = some (.ref (He.ga K "_law_other_word"))
  g__law_refused : mg "_law_refused" = some (.ref (He.ga K "_law_refused"))
  g__law_take : mg "_law_take" = some (.ref (He.ga K "_law_take"))
  g_law : mg "law" = some (.ref (He.ga K "law"))
  g_operation : mg "operation" = some (.ref (He.ga K "operation"))
  f_ValueError : mg "ValueError" = none
  f_abs : mg "abs" = none
  f_bool : mg "bool" = none
  f_enumerate : mg "enumerate" = none
  f_int : mg "int" = none
  f_isinstance : mg "isinstance" = none
  f_len : mg "len" = none
  f_list : mg "list" = none
  f_max : mg "max" = none
  f_min : mg "min" = none
  f_range : mg "range" = none
  f_str : mg "str" = none
  f_tuple : mg "tuple" = none
  fld_named : FldOk K "named" cl_named
  fld_two_days : FldOk K "two_days" cl_two_days
  fld_word : FldOk K "word" cl_word
  mk_Between : Mk K (He.ga K "Between") (He.fAd K ("Operation", some "__init__"))
  mk_Clear : Mk K (He.ga K "Clear") (He.fAd K ("Operation", some "__init__"))
  mk_EndFrom : Mk K (He.ga K "EndFrom") (He.fAd K ("Operation", some "__init__"))
  mk_Fill : Mk K (He.ga K "Fill") (He.fAd K ("Operation", some "__init__"))
  mk_Give : Mk K (He.ga K "Give") (He.fAd K ("Operation", some "__init__"))
  mk_Move : Mk K (He.ga K "Move") (He.fAd K ("Operation", some "__init__"))
  mk_SetFrom : Mk K (He.ga K "SetFrom") (He.fAd K ("Operation", some "__init__"))
  mk_Take : Mk K (He.ga K "Take") (He.fAd K ("Operation", some "__init__"))
  hcv_Operation_WORDS : CV K "Operation" "WORDS" cv_Operation_WORDS
  hitab : itab.Ok K
  hitx : ∀ e ∈ itx, PySem.W.kitOne K (e.1.v K) (e.2.1.v K) = some e.2.2
  oex_Unknown : OexC K (He.ga K "Unknown")
  xin_Unknown : PySem.W.findIn K (.ref (He.ga K "Unknown")) "__init__" = some (some (.ref (He.fAd K ("Unknown", some "__init__")))) ∧ PySem.W.typeIn K (.ref (He.fAd K ("Unknown", some "__init__"))) = some (.type "function")
  xns_Unknown : ∀ p ∈ sts_Unknown, PySem.W.findIn K (.ref (He.ga K "Unknown")) p.1 = some none
  exm_Unknown : ∀ c0 b, xcl_Unknown c0 = some b → PySem.W.exmOne K (.ref (He.ga K c0)) (.ref (He.ga K "Unknown")) = some b
  xcc_Unknown : ∀ c0, xcl_Unknown c0 = some true → XcC K (He.ga K c0)
  xno_Unknown : ∀ c0 f, xcl_Unknown c0 = some true → f ∈ xfl_Unknown → PySem.W.findIn K (.ref (He.ga K c0)) f = some none
  d__law_op_words : ∃ fd, FunD K d__law_op_words.name d__law_op_words.qual d__law_op_words.params d__law_op_words.body d__law_op_words.scope (d__law_op_words.dvs K) (d__law_op_words.kws K) (He.fAd K d__law_op_words.at_) fd
  d_Unknown____init__ : ∃ fd, FunD K d_Unknown____init__.name d_Unknown____init__.qual d_Unknown____init__.params d_Unknown____init__.body d_Unknown____init__.scope (d_Unknown____init__.dvs K) (d_Unknown____init__.kws K) (He.fAd K d_Unknown____init__.at_) fd
  d_Operation____init__ : ∃ fd, FunD K d_Operation____init__.name d_Operation____init__.qual d_Operation____init__.params d_Operation____init__.body d_Operation____init__.scope (d_Operation____init__.dvs K) (d_Operation____init__.kws K) (He.fAd K d_Operation____init__.at_) fd
  d_operation : ∃ fd, FunD K d_operation.name d_operation.qual d_operation.params d_operation.body d_operation.scope (d_operation.dvs K) (d_operation.kws K) (He.fAd K d_operation.at_) fd
  d__law_is_number : ∃ fd, FunD K d__law_is_number.name d__law_is_number.qual d__law_is_number.params d__law_is_number.body d__law_is_number.scope (d__law_is_number.dvs K) (d__law_is_number.kws K) (He.fAd K d__law_is_number.at_) fd
  d__law_are_told : ∃ fd, FunD K d__law_are_told.name d__law_are_told.qual d__law_are_told.params d__law_are_told.body d__law_are_told.scope (d__law_are_told.dvs K) (d__law_are_told.kws K) (He.fAd K d__law_are_told.at_) fd
  d__law_refused : ∃ fd, FunD K d__law_refused.name d__law_refused.qual d__law_refused.params d__law_refused.body d__law_refused.scope (d__law_refused.dvs K) (d__law_refused.kws K) (He.fAd K d__law_refused.at_) fd
  d__law_take : ∃ fd, FunD K d__law_take.name d__law_take.qual d__law_take.params d__law_take.body d__law_take.scope (d__law_take.dvs K) (d__law_take.kws K) (He.fAd K d__law_take.at_) fd
  d__law_of : ∃ fd, FunD K d__law_of.name d__law_of.qual d__law_of.params d__law_of.body d__law_of.scope (d__law_of.dvs K) (d__law_of.kws K) (He.fAd K d__law_of.at_) fd
  d__law_other_word : ∃ fd, FunD K d__law_other_word.name d__law_other_word.qual d__law_other_word.params d__law_other_word.body d__law_other_word.scope (d__law_other_word.dvs K) (d__law_other_word.kws K) (He.fAd K d__law_other_word.at_) fd
  d__law_bag : ∃ fd, FunD K d__law_bag.name d__law_bag.qual d__law_bag.params d__law_bag.body d__law_bag.scope (d__law_bag.dvs K) (d__law_bag.kws K) (He.fAd K d__law_bag.at_) fd
  d_law : ∃ fd, FunD K d_law.name d_law.qual d_law.params d_law.body d_law.scope (d_law.dvs K) (d_law.kws K) (He.fAd K d_law.at_) fd
def ck0 (K : PySem.W.Frag) : Bool := (He.Fa.glo "Between").ok K
def ck1 (K : PySem.W.Frag) : Bool := (He.Fa.glo "Clear").ok K
def ck2 (K : PySem.W.Frag) : Bool := (He.Fa.glo "EndFrom").ok K
def ck3 (K : PySem.W.Frag) : Bool := (He.Fa.glo "Fill").ok K
def ck4 (K : PySem.W.Frag) : Bool := (He.Fa.glo "Give").ok K
def ck5 (K : PySem.W.Frag) : Bool := (He.Fa.glo "Move").ok K
def ck6 (K : PySem.W.Frag) : Bool := (He.Fa.glo "Operation").ok K
def ck7 (K : PySem.W.Frag) : Bool := (He.Fa.glo "RowsError").ok K
def ck8 (K : PySem.W.Frag) : Bool := (He.Fa.glo "SetFrom").ok K
def ck9 (K : PySem.W.Frag) : Bool := (He.Fa.glo "Take").ok K
def ck10 (K : PySem.W.Frag) : Bool := (He.Fa.glo "Unknown").ok K
def ck11 (K : PySem.W.Frag) : Bool := (He.Fa.glo "_law_are_told").ok K
def ck12 (K : PySem.W.Frag) : Bool := (He.Fa.glo "_law_bag").ok K
def ck13 (K : PySem.W.Frag) : Bool := (He.Fa.glo "_law_is_number").ok K
def ck14 (K : PySem.W.Frag) : Bool := (He.Fa.glo "_law_of").ok K
def ck15 (K : PySem.W.Frag) : Bool := (He.Fa.glo "_law_op_words").ok K
def ck16 (K : PySem.W.Frag) : Bool := (He.Fa.glo "_law_other_word").ok K
def ck17 (K : PySem.W.Frag) : Bool := (He.Fa.glo "_law_refused").ok K
def ck18 (K : PySem.W.Frag) : Bool := (He.Fa.glo "_law_take").ok K
def ck19 (K : PySem.W.Frag) : Bool := (He.Fa.glo "law").ok K
def ck20 (K : PySem.W.Frag) : Bool := (He.Fa.glo "operation").ok K
def ck21 (K : PySem.W.Frag) : Bool := (He.Fa.free "ValueError").ok K
def ck22 (K : PySem.W.Frag) : Bool := (He.Fa.free "abs").ok K
def ck23 (K : PySem.W.Frag) : Bool := (He.Fa.free "bool").ok K
def ck24 (K : PySem.W.Frag) : Bool := (He.Fa.free "enumerate").ok K
def ck25 (K : PySem.W.Frag) : Bool := (He.Fa.free "int").ok K
def ck26 (K : PySem.W.Frag) : Bool := (He.Fa.free "isinstance").ok K
def ck27 (K : PySem.W.Frag) : Bool := (He.Fa.free "len").ok K
def ck28 (K : PySem.W.Frag) : Bool := (He.Fa.free "list").ok K
def ck29 (K : PySem.W.Frag) : Bool := (He.Fa.free "max").ok K
def ck30 (K : PySem.W.Frag) : Bool := (He.Fa.free "min").ok K
def ck31 (K : PySem.W.Frag) : Bool := (He.Fa.free "range").ok K
def ck32 (K : PySem.W.Frag) : Bool := (He.Fa.free "str").ok K
def ck33 (K : PySem.W.Frag) : Bool := (He.Fa.free "tuple").ok K
def ck34 (K : PySem.W.Frag) : Bool := fldB K "named" ["Operation", "EndFrom", "SetFrom", "Fill", "Clear", "Between", "Take", "Give", "Move"]
def ck35 (K : PySem.W.Frag) : Bool := fldB K "two_days" ["Operation", "EndFrom", "SetFrom", "Fill", "Clear", "Between", "Take", "Give", "Move"]
def ck36 (K : PySem.W.Frag) : Bool := fldB K "word" ["Operation", "EndFrom", "SetFrom", "Fill", "Clear", "Between", "Take", "Give", "Move"]
def ck37 (K : PySem.W.Frag) : Bool := ((He.Fa.mkr "Between").ok K && decide (He.ma K (He.ga K "Between") "__init__" = He.fAd K ("Operation", some "__init__")))
def ck38 (K : PySem.W.Frag) : Bool := ((He.Fa.mkr "Clear").ok K && decide (He.ma K (He.ga K "Clear") "__init__" = He.fAd K ("Operation", some "__init__")))
def ck39 (K : PySem.W.Frag) : Bool := ((He.Fa.mkr "EndFrom").ok K && decide (He.ma K (He.ga K "EndFrom") "__init__" = He.fAd K ("Operation", some "__init__")))
def ck40 (K : PySem.W.Frag) : Bool := ((He.Fa.mkr "Fill").ok K && decide (He.ma K (He.ga K "Fill") "__init__" = He.fAd K ("Operation", some "__init__")))
def ck41 (K : PySem.W.Frag) : Bool := ((He.Fa.mkr "Give").ok K && decide (He.ma K (He.ga K "Give") "__init__" = He.fAd K ("Operation", some "__init__")))
def ck42 (K : PySem.W.Frag) : Bool := ((He.Fa.mkr "Move").ok K && decide (He.ma K (He.ga K "Move") "__init__" = He.fAd K ("Operation", some "__init__")))
def ck43 (K : PySem.W.Frag) : Bool := ((He.Fa.mkr "SetFrom").ok K && decide (He.ma K (He.ga K "SetFrom") "__init__" = He.fAd K ("Operation", some "__init__")))
def ck44 (K : PySem.W.Frag) : Bool := ((He.Fa.mkr "Take").ok K && decide (He.ma K (He.ga K "Take") "__init__" = He.fAd K ("Operation", some "__init__")))
def ck45 (K : PySem.W.Frag) : Bool := cvB K "Operation" "WORDS" cv_Operation_WORDS
def ck46 (K : PySem.W.Frag) : Bool := itabB K itab
def ck47 (K : PySem.W.Frag) : Bool := itxB K itx
def ck48 (K : PySem.W.Frag) : Bool := oexB K "Unknown"
def ck49 (K : PySem.W.Frag) : Bool := (He.eqO (PySem.W.findIn K (.ref (He.ga K "Unknown")) "__init__") (some (some (.ref (He.fAd K ("Unknown", some "__init__"))))) && decide (PySem.W.typeIn K (.ref (He.fAd K ("Unknown", some "__init__"))) = some (.type "function")))
def ck50 (K : PySem.W.Frag) : Bool := sts_Unknown.all fun p => He.eqO (PySem.W.findIn K (.ref (He.ga K "Unknown")) p.1) (some none)
def ck51 (K : PySem.W.Frag) : Bool := xclB K "Unknown" xcb_Unknown
def ck52 (K : PySem.W.Frag) : Bool := xcb_Unknown.all fun p => !p.2 || xcB K p.1
def ck53 (K : PySem.W.Frag) : Bool := xcb_Unknown.all fun p => !p.2 || xfl_Unknown.all fun f => He.eqO (PySem.W.findIn K (.ref (He.ga K p.1)) f) (some none)
def cks (K : PySem.W.Frag) : List Bool := [ck0 K, ck1 K, ck2 K, ck3 K, ck4 K, ck5 K, ck6 K, ck7 K, ck8 K, ck9 K, ck10 K, ck11 K, ck12 K, ck13 K, ck14 K, ck15 K, ck16 K, ck17 K, ck18 K, ck19 K, ck20 K, ck21 K, ck22 K, ck23 K, ck24 K, ck25 K, ck26 K, ck27 K, ck28 K, ck29 K, ck30 K, ck31 K, ck32 K, ck33 K, ck34 K, ck35 K, ck36 K, ck37 K, ck38 K, ck39 K, ck40 K, ck41 K, ck42 K, ck43 K, ck44 K, ck45 K, ck46 K, ck47 K, ck48 K, ck49 K, ck50 K, ck51 K, ck52 K, ck53 K]
def ck (K : PySem.W.Frag) : Bool := (cks K).all id
theorem cks_at {K : PySem.W.Frag} (h : ck K = true) (i : Nat) {b : Bool} (e : (cks K)[i]? = some b) : b = true := List.all_eq_true.mp h b (List.mem_of_getElem? e)
theorem facts_of {K : PySem.W.Frag} {h : Heap} {mg : Str → Option Value} (X : K.In h) (G : h.Ns mainGlobals mg) {hk : Hk} (e1 : hk.ck = ck) (e2 : hk.fn = fnl) (s : Says hk K) : Facts K mg := by
  have c := s.ck
  rw [e1] at c
  have fn := s.fn
  rw [e2] at fn
  exact {
    g_Between := He.glo_ok X G (show ck0 K = true from cks_at c 0 rfl)
    g_Clear := He.glo_ok X G (show ck1 K = true from cks_at c 1 rfl)
    g_EndFrom := He.glo_ok X G (show ck2 K = true from cks_at c 2 rfl)
    g_Fill := He.glo_ok X G (show ck3 K = true from cks_at c 3 rfl)
    g_Give := He.glo_ok X G (show ck4 K = true from cks_at c 4 rfl)
    g_Move := He.glo_ok X G (show ck5 K = true from cks_at c 5 rfl)
    g_Operation := He.glo_ok X G (show ck6 K = true from cks_at c 6 rfl)
    g_RowsError := He.glo_ok X G (show ck7 K = true from cks_at c 7 rfl)
    g_SetFrom := He.glo_ok X G (show ck8 K = true from cks_at c 8 rfl)
    g_Take := He.glo_ok X G (show ck9 K = true from cks_at c 9 rfl)
    g_Unknown := He.glo_ok X G (show ck10 K = true from cks_at c 10 rfl)
    g__law_are_told := He.glo_ok X G (show ck11 K = true from cks_at c 11 rfl)
    g__law_bag := He.glo_ok X G (show ck12 K = true from cks_at c 12 rfl)
    g__law_is_number := He.glo_ok X G (show ck13 K = true from cks_at c 13 rfl)
    g__law_of := He.glo_ok X G (show ck14 K = true from cks_at c 14 rfl)
    g__law_op_words := He.glo_ok X G (show ck15 K = true from cks_at c 15 rfl)
    g__law_other_word := He.glo_ok X G (show ck16 K = true from cks_at c 16 rfl)
    g__law_refused := He.glo_ok X G (show ck17 K = true from cks_at c 17 rfl)
    g__law_take := He.glo_ok X G (show ck18 K = true from cks_at c 18 rfl)
    g_law := He.glo_ok X G (show ck19 K = true from cks_at c 19 rfl)
    g_operation := He.glo_ok X G (show ck20 K = true from cks_at c 20 rfl)
    f_ValueError := He.free_ok X G (show ck21 K = true from cks_at c 21 rfl)
    f_abs := He.free_ok X G (show ck22 K = true from cks_at c 22 rfl)
    f_bool := He.free_ok X G (show ck23 K = true from cks_at c 23 rfl)
    f_enumerate := He.free_ok X G (show ck24 K = true from cks_at c 24 rfl)
    f_int := He.free_ok X G (show ck25 K = true from cks_at c 25 rfl)
    f_isinstance := He.free_ok X G (show ck26 K = true from cks_at c 26 rfl)
    f_len := He.free_ok X G (show ck27 K = true from cks_at c 27 rfl)
    f_list := He.free_ok X G (show ck28 K = true from cks_at c 28 rfl)
    f_max := He.free_ok X G (show ck29 K = true from cks_at c 29 rfl)
    f_min := He.free_ok X G (show ck30 K = true from cks_at c 30 rfl)
    f_range := He.free_ok X G (show ck31 K = true from cks_at c 31 rfl)
    f_str := He.free_ok X G (show ck32 K = true from cks_at c 32 rfl)
    f_tuple := He.free_ok X G (show ck33 K = true from cks_at c 33 rfl)
    fld_named := fldB_ok (show ck34 K = true from cks_at c 34 rfl)
    fld_two_days := fldB_ok (show ck35 K = true from cks_at c 35 rfl)
    fld_word := fldB_ok (show ck36 K = true from cks_at c 36 rfl)
    mk_Between := by have q := He.mkr_ok (He.ba (show ck37 K = true from cks_at c 37 rfl)).1; rw [of_decide_eq_true (He.ba (show ck37 K = true from cks_at c 37 rfl)).2] at q; exact q
    mk_Clear := by have q := He.mkr_ok (He.ba (show ck38 K = true from cks_at c 38 rfl)).1; rw [of_decide_eq_true (He.ba (show ck38 K = true from cks_at c 38 rfl)).2] at q; exact q
    mk_EndFrom := by have q := He.mkr_ok (He.ba (show ck39 K = true from cks_at c 39 rfl)).1; rw [of_decide_eq_true (He.ba (show ck39 K = true from cks_at c 39 rfl)).2] at q; exact q
    mk_Fill := by have q := He.mkr_ok (He.ba (show ck40 K = true from cks_at c 40 rfl)).1; rw [of_decide_eq_true (He.ba (show ck40 K = true from cks_at c 40 rfl)).2] at q; exact q
    mk_Give := by have q := He.mkr_ok (He.ba (show ck41 K = true from cks_at c 41 rfl)).1; rw [of_decide_eq_true (He.ba (show ck41 K = true from cks_at c 41 rfl)).2] at q; exact q
    mk_Move := by have q := He.mkr_ok (He.ba (show ck42 K = true from cks_at c 42 rfl)).1; rw [of_decide_eq_true (He.ba (show ck42 K = true from cks_at c 42 rfl)).2] at q; exact q
    mk_SetFrom := by have q := He.mkr_ok (He.ba (show ck43 K = true from cks_at c 43 rfl)).1; rw [of_decide_eq_true (He.ba (show ck43 K = true from cks_at c 43 rfl)).2] at q; exact q
    mk_Take := by have q := He.mkr_ok (He.ba (show ck44 K = true from cks_at c 44 rfl)).1; rw [of_decide_eq_true (He.ba (show ck44 K = true from cks_at c 44 rfl)).2] at q; exact q
    hcv_Operation_WORDS := cvB_ok (show ck45 K = true from cks_at c 45 rfl)
    hitab := itabB_ok (show ck46 K = true from cks_at c 46 rfl)
    hitx := itxB_ok (show ck47 K = true from cks_at c 47 rfl)
    oex_Unknown := oexB_ok (show ck48 K = true from cks_at c 48 rfl)
    xin_Unknown := ⟨He.eqO_ok (He.ba (show ck49 K = true from cks_at c 49 rfl)).1, of_decide_eq_true (He.ba (show ck49 K = true from cks_at c 49 rfl)).2⟩
    xns_Unknown := fun p hp => He.eqO_ok (List.all_eq_true.mp (show ck50 K = true from cks_at c 50 rfl) p hp)
    exm_Unknown := xclB_ok (show ck51 K = true from cks_at c 51 rfl) fun c b h => lkp_mem h
    xcc_Unknown := fun c0 h => xcB_ok (by simpa using List.all_eq_true.mp (show ck52 K = true from cks_at c 52 rfl) (c0, true) (lkp_mem h))
    xno_Unknown := fun c0 f h hf => He.eqO_ok (List.all_eq_true.mp (show (xfl_Unknown.all fun f => He.eqO (PySem.W.findIn K (.ref (He.ga K c0)) f) (some none)) = true by simpa using List.all_eq_true.mp (show ck53 K = true from cks_at c 53 rfl) (c0, true) (lkp_mem h)) f hf)
    d__law_op_words := fn 0 d__law_op_words rfl
    d_Unknown____init__ := fn 1 d_Unknown____init__ rfl
    d_Operation____init__ := fn 2 d_Operation____init__ rfl
    d_operation := fn 3 d_operation rfl
    d__law_is_number := fn 4 d__law_is_number rfl
    d__law_are_told := fn 5 d__law_are_told rfl
    d__law_refused := fn 6 d__law_refused rfl
    d__law_take := fn 7 d__law_take rfl
    d__law_of := fn 8 d__law_of rfl
    d__law_other_word := fn 9 d__law_other_word rfl
    d__law_bag := fn 10 d__law_bag rfl
    d_law := fn 11 d_law rfl
  }
section
variable {P : Program} {w : World} {K : PySem.W.Frag} {mg : Str → Option Value} {base : Heap}
def den__law_op_words : SM := sRet (nLst (aCons (nC (.str "set")) (aCons (nC (.str "end")) (aCons (nC (.str "fill")) (aCons (nC (.str "between")) (aCons (nC (.str "clear")) (aCons (nC (.str "take")) (aCons (nC (.str "give")) (aCons (nC (.str "move")) (aNil))))))))))
def F__law_op_words : FM := mkF 0 [] den__law_op_words
theorem ok__law_op_words (C : Facts K mg) : Fn P w K mg base 1 0 [] [] (He.fAd K ("_law_op_words", none)) F__law_op_words := by
  obtain ⟨fd, F⟩ := C.d__law_op_words
  exact def_ok [] [] [] F ⟨rfl, rfl, rfl, by decide +kernel, rfl, by decide +kernel, by decide +kernel⟩ (by decide) (by decide) [] (FunD.bindsN F fun _ _ _ _ _ _ us hl => match us, hl with | [], _ => rfl) .nil (fun _ => rfl) fun cdv A outer s H B E b => db_one (ds_ret (dn_lst (da_cons (dn_str) (da_cons (dn_str) (da_cons (dn_str) (da_cons (dn_str) (da_cons (dn_str) (da_cons (dn_str) (da_cons (dn_str) (da_cons (dn_str) (da_nil)))))))))))
theorem xc_Unknown (C : Facts K mg) : Xc P w K mg base 1 "Unknown" 1 [] sts_Unknown := by
  obtain ⟨fd, F⟩ := C.d_Unknown____init__
  refine ⟨C.oex_Unknown, _, fd, ["self", "word"], [], [], C.xin_Unknown.1, C.xin_Unknown.2, ?_, (FunD.bindsN F fun _ _ _ _ _ _ us hl => match us, hl with | [_, _], _ => rfl), .nil, fun _ => rfl⟩
  exact xinit_ok (N := ["self", "word"]) F ⟨rfl, rfl, rfl, by decide +kernel, rfl, by decide +kernel, by decide +kernel⟩ rfl C.oex_Unknown (fun p hp => ⟨by revert p; decide, by revert p; decide, C.xns_Unknown p hp⟩) (by decide) fun cdv A outer s H E => pss_cons (ps_ost (pv 0) (pv 1)) (pss_nil)
def den_Operation____init__ : SM := sSeq (sSetF cl_word 0 "word" (nFrz 1)) (sSeq (sSetF cl_two_days 0 "two_days" (nFrz 2)) (sSetF cl_named 0 "named" (nFrz 3)))
def F_Operation____init__ : FM := mkF 4 [0] den_Operation____init__
theorem ok_Operation____init__ (C : Facts K mg) : Fn P w K mg base 1 4 [0] [] (He.fAd K ("Operation", some "__init__")) F_Operation____init__ := by
  obtain ⟨fd, F⟩ := C.d_Operation____init__
  exact def_ok ["self", "word", "two_days", "named"] ["self", "word", "two_days", "named"] [0] F ⟨rfl, rfl, rfl, by decide +kernel, rfl, by decide +kernel, by decide +kernel⟩ (by decide) (by decide) [] (FunD.bindsN F fun _ _ _ _ _ _ us hl => match us, hl with | [_, _, _, _], _ => rfl) .nil (fun _ => rfl) fun cdv A outer s H B E b => db_cons (ds_setF C.fld_word (pv 0) (dn_frz (pv 1))) (db_cons (ds_setF C.fld_two_days (pv 0) (dn_frz (pv 2))) (db_one (ds_setF C.fld_named (pv 0) (dn_frz (pv 3)))))
def den_operation : SM := sMatch (nFrz 0) (mcStr "set" (sRet (nMake "SetFrom" 4 [] F_Operation____init__ (lCons (rVal (nFrz 0)) (lCons (rVal (nC (.bl false))) (lCons (rVal (nC (.int 0))) (lNil)))))) (mcStr "end" (sRet (nMake "EndFrom" 4 [] F_Operation____init__ (lCons (rVal (nFrz 0)) (lCons (rVal (nC (.bl false))) (lCons (rVal (nC (.int 0))) (lNil)))))) (mcStr "fill" (sRet (nMake "Fill" 4 [] F_Operation____init__ (lCons (rVal (nFrz 0)) (lCons (rVal (nC (.bl false))) (lCons (rVal (nC (.int 1))) (lNil)))))) (mcStr "between" (sRet (nMake "Between" 4 [] F_Operation____init__ (lCons (rVal (nFrz 0)) (lCons (rVal (nC (.bl true))) (lCons (rVal (nC (.int 0))) (lNil)))))) (mcStr "clear" (sRet (nMake "Clear" 4 [] F_Operation____init__ (lCons (rVal (nFrz 0)) (lCons (rVal (nC (.bl true))) (lCons (rVal (nC (.int 0))) (lNil)))))) (mcStr "take" (sRet (nMake "Take" 4 [] F_Operation____init__ (lCons (rVal (nFrz 0)) (lCons (rVal (nC (.bl false))) (lCons (rVal (nC (.int 1))) (lNil)))))) (mcStr "give" (sRet (nMake "Give" 4 [] F_Operation____init__ (lCons (rVal (nFrz 0)) (lCons (rVal (nC (.bl false))) (lCons (rVal (nC (.int 2))) (lNil)))))) (mcStr "move" (sRet (nMake "Move" 4 [] F_Operation____init__ (lCons (rVal (nFrz 0)) (lCons (rVal (nC (.bl true))) (lCons (rVal (nC (.int 2))) (lNil)))))) (mcAny (sRaise "Unknown" 1 [] sts_Unknown (aCons (nFrz 0) (aNil))))))))))))
def F_operation : FM := mkF 1 [] den_operation
theorem ok_operation (C : Facts K mg) : Fn P w K mg base 3 1 [] [] (He.fAd K ("operation", none)) F_operation := by
  obtain ⟨fd, F⟩ := C.d_operation
  have ok_Operation____init___C := ok_Operation____init__ (P := P) (w := w) (base := base) C
  have xc_Unknown_C := xc_Unknown (P := P) (w := w) (base := base) C
  exact def_ok ["word"] ["word"] [] F ⟨rfl, rfl, rfl, by decide +kernel, rfl, by decide +kernel, by decide +kernel⟩ (by decide) (by decide) [] (FunD.bindsN F fun _ _ _ _ _ _ us hl => match us, hl with | [_], _ => rfl) .nil (fun _ => rfl) fun cdv A outer s H B E b => db_one (ds_match (dn_frz (pv 0)) (dmc_str (db_one (ds_ret (dn_make C.mk_SetFrom ok_Operation____init___C (b.at (by decide)) b.tk rfl C.g_SetFrom (dls_cons (dr_val (dn_frz (pv 0))) (dls_cons (dr_val (dn_bl)) (dls_cons (dr_val (dn_int)) (dls_nil))))))) (dmc_str (db_one (ds_ret (dn_make C.mk_EndFrom ok_Operation____init___C (b.at (by decide)) b.tk rfl C.g_EndFrom (dls_cons (dr_val (dn_frz (pv 0))) (dls_cons (dr_val (dn_bl)) (dls_cons (dr_val (dn_int)) (dls_nil))))))) (dmc_str (db_one (ds_ret (dn_make C.mk_Fill ok_Operation____init___C (b.at (by decide)) b.tk rfl C.g_Fill (dls_cons (dr_val (dn_frz (pv 0))) (dls_cons (dr_val (dn_bl)) (dls_cons (dr_val (dn_int)) (dls_nil))))))) (dmc_str (db_one (ds_ret (dn_make C.mk_Between ok_Operation____init___C (b.at (by decide)) b.tk rfl C.g_Between (dls_cons (dr_val (dn_frz (pv 0))) (dls_cons (dr_val (dn_bl)) (dls_cons (dr_val (dn_int)) (dls_nil))))))) (dmc_str (db_one (ds_ret (dn_make C.mk_Clear ok_Operation____init___C (b.at (by decide)) b.tk rfl C.g_Clear (dls_cons (dr_val (dn_frz (pv 0))) (dls_cons (dr_val (dn_bl)) (dls_cons (dr_val (dn_int)) (dls_nil))))))) (dmc_str (db_one (ds_ret (dn_make C.mk_Take ok_Operation____init___C (b.at (by decide)) b.tk rfl C.g_Take (dls_cons (dr_val (dn_frz (pv 0))) (dls_cons (dr_val (dn_bl)) (dls_cons (dr_val (dn_int)) (dls_nil))))))) (dmc_str (db_one (ds_ret (dn_make C.mk_Give ok_Operation____init___C (b.at (by decide)) b.tk rfl C.g_Give (dls_cons (dr_val (dn_frz (pv 0))) (dls_cons (dr_val (dn_bl)) (dls_cons (dr_val (dn_int)) (dls_nil))))))) (dmc_str (db_one (ds_ret (dn_make C.mk_Move ok_Operation____init___C (b.at (by decide)) b.tk rfl C.g_Move (dls_cons (dr_val (dn_frz (pv 0))) (dls_cons (dr_val (dn_bl)) (dls_cons (dr_val (dn_int)) (dls_nil))))))) (dmc_any (db_one (ds_raise b.calm xc_Unknown_C (b.at (by decide)) b.tk rfl C.g_Unknown (da_cons (dn_frz (pv 0)) (da_nil))))))))))))))
def den__law_is_number : SM := sRet (nAnd (nCall (fIsi itab) (aCons (nFrz 0) (aCons (nC (.ty "int")) (aNil)))) (nNot (nCall (fIsi itab) (aCons (nFrz 0) (aCons (nC (.ty "bool")) (aNil))))))
def F__law_is_number : FM := mkF 1 [] den__law_is_number
theorem ok__law_is_number (C : Facts K mg) : Fn P w K mg base 1 1 [] [] (He.fAd K ("_law_is_number", none)) F__law_is_number := by
  obtain ⟨fd, F⟩ := C.d__law_is_number
  exact def_ok ["thing"] ["thing"] [] F ⟨rfl, rfl, rfl, by decide +kernel, rfl, by decide +kernel, by decide +kernel⟩ (by decide) (by decide) [] (FunD.bindsN F fun _ _ _ _ _ _ us hl => match us, hl with | [_], _ => rfl) .nil (fun _ => rfl) fun cdv A outer s H B E b => db_one (ds_ret (dn_and (dn_callB call_isi (cd_isi C.hitab) rfl C.f_isinstance boot_isinstance (da_cons (dn_frz (pv 0)) (da_cons (dn_ty rfl C.f_int boot_int) (da_nil)))) (dn_one (dn_not (dn_callB call_isi (cd_isi C.hitab) rfl C.f_isinstance boot_isinstance (da_cons (dn_frz (pv 0)) (da_cons (dn_ty rfl C.f_bool boot_bool) (da_nil))))))))
def den__law_are_told : SM := sSeq (sSet 0 (nLst (aCons (nC (.int 0)) (aCons (nC (.int 0)) (aCons (nC (.int 1)) (aCons (nC (.int 0)) (aCons (nC (.int 0)) (aCons (nC (.int 1)) (aCons (nC (.int 2)) (aCons (nC (.int 2)) (aNil))))))))))) (sSeq (sFor (iEn (aCons (nCallF 0 [] [] F__law_op_words lNil) (aNil))) (gTup 2 (gCons (gN 1) (gCons (gN 2) (gNil)))) [1, 2, 3] (sSeq (sSet 3 (nCallF 1 [] [] F_operation (lCons (rVal (nFrz 2)) (lNil)))) (sSeq (sIf (bOr (bNot (bV (nCall (fIsi itab) (aCons (nFrz 3) (aCons (nC (.cls "Operation")) (aNil)))))) (bOr (bV (nOp fNe (nFld cl_word "word" (nFrz 3)) (nFrz 2))) (bNot (bV (nCall (fIsi itab) (aCons (nFld cl_two_days "two_days" (nFrz 3)) (aCons (nC (.ty "bool")) (aNil)))))))) (sRet (nC (.bl false))) (sNx)) (sSeq (sIf (bV (nOp fNe (nFld cl_two_days "two_days" (nFrz 3)) (nOp fIn (nFrz 2) (nTup (aCons (nC (.str "between")) (aCons (nC (.str "clear")) (aCons (nC (.str "move")) (aNil)))))))) (sRet (nC (.bl false))) (sNx)) (sIf (bOr (bNot (bV (nCallF 1 [] [] F__law_is_number (lCons (rVal (nFld cl_named "named" (nFrz 3))) (lNil))))) (bV (nOp fNe (nFld cl_named "named" (nFrz 3)) (nIx (nFrz 0) (nFrz 1))))) (sRet (nC (.bl false))) (sNx)))))) (sRet (nAnd (nCall (fIsi itab) (aCons (nCVal cv_Operation_WORDS) (aCons (nC (.ty "tuple")) (aNil)))) (nOp fEq (nCall fList (aCons (nCVal cv_Operation_WORDS) (aNil))) (nCallF 0 [] [] F__law_op_words lNil)))))
def F__law_are_told : FM := mkF 4 [] den__law_are_told
theorem ok__law_are_told (C : Facts K mg) : Fn P w K mg base 4 0 [] [] (He.fAd K ("_law_are_told", none)) F__law_are_told := by
  obtain ⟨fd, F⟩ := C.d__law_are_told
  have ok__law_is_number_C := ok__law_is_number (P := P) (w := w) (base := base) C
  have ok__law_op_words_C := ok__law_op_words (P := P) (w := w) (base := base) C
  have ok_operation_C := ok_operation (P := P) (w := w) (base := base) C
  exact def_ok ["named", "at", "word", "found"] [] [] F ⟨rfl, rfl, rfl, by decide +kernel, rfl, by decide +kernel, by decide +kernel⟩ (by decide) (by decide) [] (FunD.bindsN F fun _ _ _ _ _ _ us hl => match us, hl with | [], _ => rfl) .nil (fun _ => rfl) fun cdv A outer s H B E b => db_cons (ds_set b.nd rfl (.inl rfl) (by decide) (dn_lst (da_cons (dn_int) (da_cons (dn_int) (da_cons (dn_int) (da_cons (dn_int) (da_cons (dn_int) (da_cons (dn_int) (da_cons (dn_int) (da_cons (dn_int) (da_nil))))))))))) (db_cons (ds_for [1, 2, 3] b.hp b.calm (di_enum rfl C.f_enumerate (da_cons (dn_call0 ok__law_op_words_C (b.at (by decide)) b.tk rfl C.g__law_op_words) (da_nil))) (dg_tup b.calm (dgs_cons (dg_name b.nd rfl (.inl rfl) (by decide)) (dgs_cons (dg_name b.nd rfl (.inl rfl) (by decide)) (dgs_nil)))) (db_cons (ds_set b.nd rfl (.inl rfl) (by decide) (dn_call ok_operation_C (b.at (by decide)) b.tk rfl C.g_operation (dls_cons (dr_val (dn_frz (pv 2))) (dls_nil)))) (db_cons (ds_if (dt_w (dw_or (dt_not (dt_val (dn_callB call_isi (cd_isi C.hitab) rfl C.f_isinstance boot_isinstance (da_cons (dn_frz (pv 3)) (da_cons (dn_cls rfl C.g_Operation) (da_nil)))))) (dw_or (dt_cmp (op_nef b.un) od_ne (nomark _) (dn_fld C.fld_word (dn_frz (pv 3))) (dn_frz (pv 2))) (dw_or1 (dt_not (dt_val (dn_callB call_isi (cd_isi C.hitab) rfl C.f_isinstance boot_isinstance (da_cons (dn_fld C.fld_two_days (dn_frz (pv 3))) (da_cons (dn_ty rfl C.f_bool boot_bool) (da_nil)))))))))) (db_one (ds_ret (dn_bl))) (db_nil)) (db_cons (ds_if (dt_cmp (op_nef b.un) od_ne (nomark _) (dn_fld C.fld_two_days (dn_frz (pv 3))) (dn_cmp op_inD od_in (by rfl) (dn_frz (pv 2)) (dn_tup (da_cons (dn_str) (da_cons (dn_str) (da_cons (dn_str) (da_nil))))))) (db_one (ds_ret (dn_bl))) (db_nil)) (db_one (ds_if (dt_w (dw_or (dt_not (dt_val (dn_call ok__law_is_number_C (b.at (by decide)) b.tk rfl C.g__law_is_number (dls_cons (dr_val (dn_fld C.fld_named (dn_frz (pv 3)))) (dls_nil))))) (dw_or1 (dt_cmp (op_nef b.un) od_ne (nomark _) (dn_fld C.fld_named (dn_frz (pv 3))) (dn_ix (dn_frz (pv 0)) (dn_frz (pv 1)) (fun _ _ => rfl)))))) (db_one (ds_ret (dn_bl))) (db_nil))))))) (db_one (ds_ret (dn_and (dn_callB call_isi (cd_isi C.hitab) rfl C.f_isinstance boot_isinstance (da_cons (dn_cval (pe_glob rfl C.g_Operation rfl) C.hcv_Operation_WORDS) (da_cons (dn_ty rfl C.f_tuple boot_tuple) (da_nil)))) (dn_one (dn_cmp (op_eqf b.un) od_eq (nomark _) (dn_callTy call_list_of cd_list rfl C.f_list boot_list (da_cons (dn_cval (pe_glob rfl C.g_Operation rfl) C.hcv_Operation_WORDS) (da_nil))) (dn_call0 ok__law_op_words_C (b.at (by decide)) b.tk rfl C.g__law_op_words)))))))
def den__law_refused : SM := sSeq (sSet 1 (nC .non)) (sSeq (sTryAs (sSeq (sExp (nCallF 1 [] [] F_operation (lCons (rVal (nFrz 0)) (lNil)))) (sRet (nC (.bl false)))) (xcl_Unknown) 2 (fun c0 x0 => sSeq (sIf (bOr (bNot (bV (nLook (vIsX 2 c0 itx (vC (.cls "RowsError")))))) (bNot (bV (nLook (vIsX 2 c0 itx (vC (.ty "ValueError"))))))) (sRet (nC (.bl false))) (sNx)) (sSet 1 (nLook (vXf 2 x0 "word"))))) (sRet (nAnd (nOp fEq (nFrz 1) (nFrz 0)) (nCall (fIsi itab) (aCons (nFrz 1) (aCons (nC (.ty "str")) (aNil)))))))
def F__law_refused : FM := mkF 3 [] den__law_refused
theorem ok__law_refused (C : Facts K mg) : Fn P w K mg base 4 1 [] [] (He.fAd K ("_law_refused", none)) F__law_refused := by
  obtain ⟨fd, F⟩ := C.d__law_refused
  have ok_operation_C := ok_operation (P := P) (w := w) (base := base) C
  exact def_ok ["text", "told", "caught"] ["text"] [] F ⟨rfl, rfl, rfl, by decide +kernel, rfl, by decide +kernel, by decide +kernel⟩ (by decide) (by decide) [] (FunD.bindsN F fun _ _ _ _ _ _ us hl => match us, hl with | [_], _ => rfl) .nil (fun _ => rfl) fun cdv A outer s H B E b => db_cons (ds_set b.nd rfl (.inl rfl) (by decide) (dn_non)) (db_cons (ds_try_as b.st b.fr b.nd rfl rfl ⟨rfl, by decide, .inl C.g_Unknown⟩ b.tk (by decide) C.exm_Unknown (fun W pn xe tk' hp' => by have b := b.tr tk' hp'; exact db_cons (ds_expr (dn_call ok_operation_C (b.at (by decide)) b.tk rfl C.g_operation (dls_cons (dr_val (dn_frz (pv 0))) (dls_nil)))) (db_one (ds_ret (dn_bl)))) (fun a oe cls d pn B' c0 x0 hcl kc => by have b := b.suite a ((a, oe) :: pn); have xcx := fun c h => XcC.xf (C.xcc_Unknown c h); have xcc := C.xcc_Unknown; have xno := C.xno_Unknown; exact db_cons (ds_if (dt_w (dw_or (dt_not (dt_val (dn_look (dl_isX kc (xcc _ hcl) C.hitx rfl C.f_isinstance (pv 2) (dl_const (pe_glob (v := .ref (He.ga K "RowsError")) rfl C.g_RowsError rfl) fun _ => rfl))))) (dw_or1 (dt_not (dt_val (dn_look (dl_isX kc (xcc _ hcl) C.hitx rfl C.f_isinstance (pv 2) (dl_const (pe_bltn (v := .ty "ValueError") rfl C.f_ValueError boot_ValueError rfl) fun _ => rfl)))))))) (db_one (ds_ret (dn_bl))) (db_nil)) (db_one (ds_set b.nd rfl (.inl rfl) (by decide) (dn_look (dl_xf kc (xcx _ hcl) (xno _ _ hcl (by decide)) (pv 2))))))) (db_one (ds_ret (dn_and (dn_cmp (op_eqf b.un) od_eq (nomark _) (dn_frz (pv 1)) (dn_frz (pv 0))) (dn_one (dn_callB call_isi (cd_isi C.hitab) rfl C.f_isinstance boot_isinstance (da_cons (dn_frz (pv 1)) (da_cons (dn_ty rfl C.f_str boot_str) (da_nil)))))))))
def den__law_take : SM := sSeq (sIf (bV (nOp fGt (nLook (vIx (vVar 0) (vC (.int 0)))) (nC (.int 0)))) (sSeq (sSet 2 (nOp fMod (nCall fInt (aCons (nLook (vIx (vVar 0) (vC (.int 0)))) (aNil))) (nFrz 1))) (sSeq (sSetIx 0 (vC (.int 0)) (nOp fDiv (nLook (vIx (vVar 0) (vC (.int 0)))) (nFrz 1))) (sRet (nFrz 2)))) (sNx)) (sSeq (sSetIx 0 (vC (.int 2)) (nOp fAdd (nLook (vIx (vVar 0) (vC (.int 2)))) (nC (.int 1)))) (sSeq (sSet 3 (nOp fMod (nCall fInt (aCons (nOp fPow (nOp fAdd (nLook (vIx (vVar 0) (vC (.int 1)))) (nOp fMul (nC (.int 1000033)) (nLook (vIx (vVar 0) (vC (.int 2)))))) (nC (.int 3))) (aNil))) (nC (.int 2305843009213693921)))) (sSeq (sSet 3 (nOp fMod (nCall fInt (aCons (nOp fPow (nOp fAdd (nFrz 3) (nOp fMul (nC (.int 32452843)) (nLook (vIx (vVar 0) (vC (.int 2)))))) (nC (.int 2))) (aNil))) (nC (.int 2305843009213693951)))) (sRet (nOp fMod (nCall fInt (aCons (nOp fDiv (nFrz 3) (nC (.int 2048))) (aNil))) (nFrz 1))))))
def F__law_take : FM := mkF 4 [0] den__law_take
theorem ok__law_take (C : Facts K mg) : Fn P w K mg base 1 2 [0] [] (He.fAd K ("_law_take", none)) F__law_take := by
  obtain ⟨fd, F⟩ := C.d__law_take
  exact def_ok ["bag", "many", "digit", "mixed"] ["bag", "many"] [0] F ⟨rfl, rfl, rfl, by decide +kernel, rfl, by decide +kernel, by decide +kernel⟩ (by decide) (by decide) [] (FunD.bindsN F fun _ _ _ _ _ _ us hl => match us, hl with | [_, _], _ => rfl) .nil (fun _ => rfl) fun cdv A outer s H B E b => db_cons (ds_if (dt_cmp op_gtD od_gt (nomark _) (dn_look (dl_ix (dl_var (pv 0)) (dl_int) (fun _ _ => rfl))) (dn_int)) (db_cons (ds_set b.nd rfl (.inl rfl) (by decide) (dn_op op_mod od_mod (dn_callTy call_int1 cd_int rfl C.f_int boot_int (da_cons (dn_look (dl_ix (dl_var (pv 0)) (dl_int) (fun _ _ => rfl))) (da_nil))) (dn_frz (pv 1)))) (db_cons (ds_setIx (pv 0) (dl_int) (dn_op op_fdivW od_div (dn_look (dl_ix (dl_var (pv 0)) (dl_int) (fun _ _ => rfl))) (dn_frz (pv 1)))) (db_one (ds_ret (dn_frz (pv 2)))))) (db_nil)) (db_cons (ds_setIx (pv 0) (dl_int) (dn_op op_addD od_add (dn_look (dl_ix (dl_var (pv 0)) (dl_int) (fun _ _ => rfl))) (dn_int))) (db_cons (ds_set b.nd rfl (.inl rfl) (by decide) (dn_op op_mod od_mod (dn_callTy call_int1 cd_int rfl C.f_int boot_int (da_cons (dn_op op_pow od_pow (dn_op op_addD od_add (dn_look (dl_ix (dl_var (pv 0)) (dl_int) (fun _ _ => rfl))) (dn_op op_mulD od_mul (dn_int) (dn_look (dl_ix (dl_var (pv 0)) (dl_int) (fun _ _ => rfl))))) (dn_int)) (da_nil))) (dn_int))) (db_cons (ds_set b.nd rfl (.inl rfl) (by decide) (dn_op op_mod od_mod (dn_callTy call_int1 cd_int rfl C.f_int boot_int (da_cons (dn_op op_pow od_pow (dn_op op_addD od_add (dn_frz (pv 3)) (dn_op op_mulD od_mul (dn_int) (dn_look (dl_ix (dl_var (pv 0)) (dl_int) (fun _ _ => rfl))))) (dn_int)) (da_nil))) (dn_int))) (db_one (ds_ret (dn_op op_mod od_mod (dn_callTy call_int1 cd_int rfl C.f_int boot_int (da_cons (dn_op op_fdivW od_div (dn_frz (pv 3)) (dn_int)) (da_nil))) (dn_frz (pv 1))))))))
def den__law_of : SM := sRet (nIx (nFrz 1) (nCallF 2 [0] [] F__law_take (lCons (rLend 0) (lCons (rVal (nCall fLen (aCons (nFrz 1) (aNil)))) (lNil)))))
def F__law_of : FM := mkF 2 [0] den__law_of
theorem ok__law_of (C : Facts K mg) : Fn P w K mg base 2 2 [0] [] (He.fAd K ("_law_of", none)) F__law_of := by
  obtain ⟨fd, F⟩ := C.d__law_of
  have ok__law_take_C := ok__law_take (P := P) (w := w) (base := base) C
  exact def_ok ["bag", "some"] ["bag", "some"] [0] F ⟨rfl, rfl, rfl, by decide +kernel, rfl, by decide +kernel, by decide +kernel⟩ (by decide) (by decide) [] (FunD.bindsN F fun _ _ _ _ _ _ us hl => match us, hl with | [_, _], _ => rfl) .nil (fun _ => rfl) fun cdv A outer s H B E b => db_one (ds_ret (dn_ix (dn_frz (pv 1)) (dn_call ok__law_take_C (b.at (by decide)) b.tk rfl C.g__law_take (dls_cons (dr_lend (pv 0)) (dls_cons (dr_val (dn_callB call_len cd_len rfl C.f_len boot_len (da_cons (dn_frz (pv 1)) (da_nil)))) (dls_nil)))) (fun _ _ => rfl)))
def den__law_other_word : SM := sSeq (sPar 1 2 (aCons (nCallF 2 [0] [] F__law_of (lCons (rLend 0) (lCons (rVal (nCallF 0 [] [] F__law_op_words lNil)) (lNil)))) (aCons (nCallF 2 [0] [] F__law_of (lCons (rLend 0) (lCons (rVal (nC (.str "aemst xSZ-"))) (lNil)))) (aNil)))) (sSeq (sSet 3 (nCallF 2 [0] [] F__law_take (lCons (rLend 0) (lCons (rVal (nC (.int 7))) (lNil))))) (sSeq (sSet 4 (nIx (nLst (aCons (nOp fAdd (nFrz 1) (nFrz 2)) (aCons (nSl (nFrz 1) (oSome (vC (.int 1))) (oNone)) (aCons (nOp fAdd (nFrz 2) (nFrz 1)) (aCons (nTx0 fUpper (nFrz 1)) (aCons (nSl (nFrz 1) (oNone) (oSome (vC (.int (-1))))) (aCons (nOp fAdd (nOp fAdd (nFrz 1) (nC (.str " "))) (nFrz 1)) (aCons (nC (.str "")) (aNil))))))))) (nFrz 3))) (sSeq (sIf (bV (nOp fEq (nFrz 3) (nC (.int 6)))) (sFor (iR1 (aCons (nCallF 2 [0] [] F__law_take (lCons (rLend 0) (lCons (rVal (nC (.int 9))) (lNil)))) (aNil))) (gN 5) [5] (sSet 4 (nOp fAdd (nFrz 4) (nCallF 2 [0] [] F__law_of (lCons (rLend 0) (lCons (rVal (nC (.str "abcdefiklmnorstvw "))) (lNil))))))) (sNx)) (sRet (nIf (bV (nOp fIn (nFrz 4) (nCallF 0 [] [] F__law_op_words lNil))) (nOp fAdd (nFrz 4) (nC (.str "?"))) (nFrz 4))))))
def F__law_other_word : FM := mkF 6 [0] den__law_other_word
theorem ok__law_other_word (C : Facts K mg) : Fn P w K mg base 3 1 [0] [] (He.fAd K ("_law_other_word", none)) F__law_other_word := by
  obtain ⟨fd, F⟩ := C.d__law_other_word
  have ok__law_of_C := ok__law_of (P := P) (w := w) (base := base) C
  have ok__law_op_words_C := ok__law_op_words (P := P) (w := w) (base := base) C
  have ok__law_take_C := ok__law_take (P := P) (w := w) (base := base) C
  exact def_ok ["bag", "word", "sign", "road", "text", "turn"] ["bag"] [0] F ⟨rfl, rfl, rfl, by decide +kernel, rfl, by decide +kernel, by decide +kernel⟩ (by decide) (by decide) [] (FunD.bindsN F fun _ _ _ _ _ _ us hl => match us, hl with | [_], _ => rfl) .nil (fun _ => rfl) fun cdv A outer s H B E b => db_cons (ds_par b.calm b.nd rfl rfl (by decide) (by decide) (by decide) rfl rfl (da_cons (dn_call ok__law_of_C (b.at (by decide)) b.tk rfl C.g__law_of (dls_cons (dr_lend (pv 0)) (dls_cons (dr_val (dn_call0 ok__law_op_words_C (b.at (by decide)) b.tk rfl C.g__law_op_words)) (dls_nil)))) (da_cons (dn_call ok__law_of_C (b.at (by decide)) b.tk rfl C.g__law_of (dls_cons (dr_lend (pv 0)) (dls_cons (dr_val (dn_str)) (dls_nil)))) (da_nil))) rfl) (db_cons (ds_set b.nd rfl (.inl rfl) (by decide) (dn_call ok__law_take_C (b.at (by decide)) b.tk rfl C.g__law_take (dls_cons (dr_lend (pv 0)) (dls_cons (dr_val (dn_int)) (dls_nil))))) (db_cons (ds_set b.nd rfl (.inl rfl) (by decide) (dn_ix (dn_lst (da_cons (dn_op op_addD od_add (dn_frz (pv 1)) (dn_frz (pv 2))) (da_cons (dn_slice (dn_frz (pv 1)) (do_some (dl_int)) (do_none)) (da_cons (dn_op op_addD od_add (dn_frz (pv 2)) (dn_frz (pv 1))) (da_cons (dn_upper (dn_frz (pv 1))) (da_cons (dn_slice (dn_frz (pv 1)) (do_none) (do_some (dl_nint))) (da_cons (dn_op op_addD od_add (dn_op op_addD od_add (dn_frz (pv 1)) (dn_str)) (dn_frz (pv 1))) (da_cons (dn_str) (da_nil))))))))) (dn_frz (pv 3)) (fun _ _ => rfl))) (db_cons (ds_if (dt_cmp (op_eqf b.un) od_eq (nomark _) (dn_frz (pv 3)) (dn_int)) (db_one (ds_for [5] b.hp b.calm (di_range1 rfl C.f_range (da_cons (dn_call ok__law_take_C (b.at (by decide)) b.tk rfl C.g__law_take (dls_cons (dr_lend (pv 0)) (dls_cons (dr_val (dn_int)) (dls_nil)))) (da_nil))) (dg_name b.nd rfl (.inl rfl) (by decide)) (db_one (ds_set b.nd rfl (.inl rfl) (by decide) (dn_op op_addD od_add (dn_frz (pv 4)) (dn_call ok__law_of_C (b.at (by decide)) b.tk rfl C.g__law_of (dls_cons (dr_lend (pv 0)) (dls_cons (dr_val (dn_str)) (dls_nil))))))))) (db_nil)) (db_one (ds_ret (dn_if (dt_cmp op_inD od_in (by rfl) (dn_frz (pv 4)) (dn_call0 ok__law_op_words_C (b.at (by decide)) b.tk rfl C.g__law_op_words)) (dn_op op_addD od_add (dn_frz (pv 4)) (dn_str)) (dn_frz (pv 4))))))))
def den__law_bag : SM := sSeq (sSet 2 (nIf (bV (nOp fLt (nFrz 1) (nCall fLen (aCons (nFrz 0) (aNil))))) (nIx (nFrz 0) (nFrz 1)) (nC (.int 0)))) (sSeq (sSet 3 (nIf (bV (nOp fGe (nCall fAbs (aCons (nFrz 2) (aNil))) (nOp fPow (nC (.int 10)) (nC (.int 18))))) (nCall fAbs (aCons (nFrz 2) (aNil))) (nC (.int 0)))) (sRet (nLst (aCons (nFrz 3) (aCons (nOp fAdd (nOp fAdd (nOp fMul (nOp fMod (nCall fInt (aCons (nFrz 2) (aNil))) (nC (.int 2305843009213693951))) (nC (.int 5))) (nOp fMul (nC (.int 6691)) (nFrz 1))) (nC (.int 3067))) (aCons (nC (.int 0)) (aNil)))))))
def F__law_bag : FM := mkF 4 [] den__law_bag
theorem ok__law_bag (C : Facts K mg) : Fn P w K mg base 1 2 [] [] (He.fAd K ("_law_bag", none)) F__law_bag := by
  obtain ⟨fd, F⟩ := C.d__law_bag
  exact def_ok ["script", "at", "cell", "digits"] ["script", "at"] [] F ⟨rfl, rfl, rfl, by decide +kernel, rfl, by decide +kernel, by decide +kernel⟩ (by decide) (by decide) [] (FunD.bindsN F fun _ _ _ _ _ _ us hl => match us, hl with | [_, _], _ => rfl) .nil (fun _ => rfl) fun cdv A outer s H B E b => db_cons (ds_set b.nd rfl (.inl rfl) (by decide) (dn_if (dt_cmp op_ltD od_lt (nomark _) (dn_frz (pv 1)) (dn_callB call_len cd_len rfl C.f_len boot_len (da_cons (dn_frz (pv 0)) (da_nil)))) (dn_ix (dn_frz (pv 0)) (dn_frz (pv 1)) (fun _ _ => rfl)) (dn_int))) (db_cons (ds_set b.nd rfl (.inl rfl) (by decide) (dn_if (dt_cmp op_geD od_ge (nomark _) (dn_callB call_abs cd_abs rfl C.f_abs boot_abs (da_cons (dn_frz (pv 2)) (da_nil))) (dn_op op_pow od_pow (dn_int) (dn_int))) (dn_callB call_abs cd_abs rfl C.f_abs boot_abs (da_cons (dn_frz (pv 2)) (da_nil))) (dn_int))) (db_one (ds_ret (dn_lst (da_cons (dn_frz (pv 3)) (da_cons (dn_op op_addD od_add (dn_op op_addD od_add (dn_op op_mulD od_mul (dn_op op_mod od_mod (dn_callTy call_int1 cd_int rfl C.f_int boot_int (da_cons (dn_frz (pv 2)) (da_nil))) (dn_int)) (dn_int)) (dn_op op_mulD od_mul (dn_int) (dn_frz (pv 1)))) (dn_int)) (da_cons (dn_int) (da_nil))))))))
def den_law : SM := sSeq (sIf (bNot (bV (nCallF 0 [] [] F__law_are_told lNil))) (sRet (nC (.bl false))) (sNx)) (sSeq (sFor (iR1 (aCons (nCall fMax (aCons (nC (.int 1)) (aCons (nCall fMin (aCons (nC (.int 20)) (aCons (nCall fLen (aCons (nFrz 0) (aNil))) (aNil)))) (aNil)))) (aNil))) (gN 1) [1] (sIf (bNot (bV (nCallF 1 [] [] F__law_refused (lCons (rVal (nCallF 1 [0] [] F__law_other_word (lCons (rOwn (nCallF 2 [] [] F__law_bag (lCons (rVal (nFrz 0)) (lCons (rVal (nFrz 1)) (lNil))))) (lNil)))) (lNil))))) (sRet (nC (.bl false))) (sNx))) (sRet (nCallF 0 [] [] F__law_are_told lNil)))
def F_law : FM := mkF 2 [] den_law
theorem ok_law (C : Facts K mg) : Fn P w K mg base 5 1 [] [] (He.fAd K ("law", none)) F_law := by
  obtain ⟨fd, F⟩ := C.d_law
  have ok__law_are_told_C := ok__law_are_told (P := P) (w := w) (base := base) C
  have ok__law_bag_C := ok__law_bag (P := P) (w := w) (base := base) C
  have ok__law_other_word_C := ok__law_other_word (P := P) (w := w) (base := base) C
  have ok__law_refused_C := ok__law_refused (P := P) (w := w) (base := base) C
  exact def_ok ["script", "at"] ["script"] [] F ⟨rfl, rfl, rfl, by decide +kernel, rfl, by decide +kernel, by decide +kernel⟩ (by decide) (by decide) [] (FunD.bindsN F fun _ _ _ _ _ _ us hl => match us, hl with | [_], _ => rfl) .nil (fun _ => rfl) fun cdv A outer s H B E b => db_cons (ds_if (dt_not (dt_val (dn_call0 ok__law_are_told_C (b.at (by decide)) b.tk rfl C.g__law_are_told))) (db_one (ds_ret (dn_bl))) (db_nil)) (db_cons (ds_for [1] b.hp b.calm (di_range1 rfl C.f_range (da_cons (dn_callB (call_max2 b.calm) cd_max rfl C.f_max boot_max (da_cons (dn_int) (da_cons (dn_callB (call_min2 b.calm) cd_min rfl C.f_min boot_min (da_cons (dn_int) (da_cons (dn_callB call_len cd_len rfl C.f_len boot_len (da_cons (dn_frz (pv 0)) (da_nil))) (da_nil)))) (da_nil)))) (da_nil))) (dg_name b.nd rfl (.inl rfl) (by decide)) (db_one (ds_if (dt_not (dt_val (dn_call ok__law_refused_C (b.at (by decide)) b.tk rfl C.g__law_refused (dls_cons (dr_val (dn_call ok__law_other_word_C (b.at (by decide)) b.tk rfl C.g__law_other_word (dls_cons (dr_own (dn_call ok__law_bag_C (b.at (by decide)) b.tk rfl C.g__law_bag (dls_cons (dr_val (dn_frz (pv 0))) (dls_cons (dr_val (dn_frz (pv 1))) (dls_nil))))) (dls_nil)))) (dls_nil))))) (db_one (ds_ret (dn_bl))) (db_nil)))) (db_one (ds_ret (dn_call0 ok__law_are_told_C (b.at (by decide)) b.tk rfl C.g__law_are_told))))
theorem law_fn (C : Facts K mg) : ∃ fd, (∀ (s : Shared) (u : Value), BindsTo s fd ⟨[u], []⟩ [("script", u)]) ∧ ∀ base : Heap, FnOk P w K mg base (L2.CX P w) 5 (He.fAd K ("law", none)) fd ["script"] (spF K 1 [] F_law) := by
  obtain ⟨fd, F⟩ := C.d_law
  have bnd := FunD.bindsA (ps := ["script"]) F fun _ _ _ _ _ _ us hl => match us, hl with | [_], _ => rfl
  refine ⟨fd, fun s u => bnd s [u] rfl, fun base => ?_⟩
  have ok__law_are_told_C := ok__law_are_told (P := P) (w := w) (base := base) C
  have ok__law_bag_C := ok__law_bag (P := P) (w := w) (base := base) C
  have ok__law_other_word_C := ok__law_other_word (P := P) (w := w) (base := base) C
  have ok__law_refused_C := ok__law_refused (P := P) (w := w) (base := base) C
  exact def_fn ["script", "at"] ["script"] [] F ⟨rfl, rfl, rfl, by decide +kernel, rfl, by decide +kernel, by decide +kernel⟩ (by decide) (by decide) fun cdv A outer s H B E b => db_cons (ds_if (dt_not (dt_val (dn_call0 ok__law_are_told_C (b.at (by decide)) b.tk rfl C.g__law_are_told))) (db_one (ds_ret (dn_bl))) (db_nil)) (db_cons (ds_for [1] b.hp b.calm (di_range1 rfl C.f_range (da_cons (dn_callB (call_max2 b.calm) cd_max rfl C.f_max boot_max (da_cons (dn_int) (da_cons (dn_callB (call_min2 b.calm) cd_min rfl C.f_min boot_min (da_cons (dn_int) (da_cons (dn_callB call_len cd_len rfl C.f_len boot_len (da_cons (dn_frz (pv 0)) (da_nil))) (da_nil)))) (da_nil)))) (da_nil))) (dg_name b.nd rfl (.inl rfl) (by decide)) (db_one (ds_if (dt_not (dt_val (dn_call ok__law_refused_C (b.at (by decide)) b.tk rfl C.g__law_refused (dls_cons (dr_val (dn_call ok__law_other_word_C (b.at (by decide)) b.tk rfl C.g__law_other_word (dls_cons (dr_own (dn_call ok__law_bag_C (b.at (by decide)) b.tk rfl C.g__law_bag (dls_cons (dr_val (dn_frz (pv 0))) (dls_cons (dr_val (dn_frz (pv 1))) (dls_nil))))) (dls_nil)))) (dls_nil))))) (db_one (ds_ret (dn_bl))) (db_nil)))) (db_one (ds_ret (dn_call0 ok__law_are_told_C (b.at (by decide)) b.tk rfl C.g__law_are_told))))
end
def as0 : List Addr := [3, 6, 21, 31, 51, 108, 129, 148, 174, 193, 212, 238, 264, 290, 297, 304, 311, 318, 325, 332, 339, 346, 353, 360, 0, 20, 30, 50, 107, 128]
def as1 : List Addr := [147, 173, 192, 211, 237, 263, 289, 296, 303, 310, 317, 324, 331, 338, 345, 352, 359, 29, 48, 49, 61, 68, 75, 82, 89, 97, 105, 106, 126, 127]
def as2 : List Addr := [145, 146, 164, 171, 172, 190, 191, 209, 210, 228, 235, 236, 254, 261, 262, 280, 287, 288, 47, 67, 74, 81, 88, 96, 90, 104, 98, 125, 144, 163]
def as3 : List Addr := [170, 189, 208, 227, 234, 253, 260, 279, 286, 1, 2, 4, 5, 7, 8, 9, 10]
def asL : List Addr := as0 ++ as1 ++ as2 ++ as3
def names0 : List PySem.Str := ["_wall", "RowsError", "Unknown", "Operation", "EndFrom", "SetFrom", "Fill", "Clear", "Between", "Take", "Give", "Move", "operation", "_law_bag", "_law_take", "_law_of", "_law_is_number", "_law_op_words", "_law_other_word", "_law_refused"]
def names1 : List PySem.Str := ["_law_are_told"]
def names : List PySem.Str := names0 ++ names1
abbrev R : PySem.W.OpenRow := PySem.W.OpenLaw.row PySem.Challenge.rw_untilrows_k57_operations_told
def hk : Hk := ⟨asL, ck, fnl⟩
def ob (s : PySem.W.SharedT) : He.AlD := hk.obs (HandSHeadRun.getT s)
theorem ob_eq (s : PySem.W.SharedT) : ob s = hk.hook.obs s.abs := Hk.obs_eq (HandSHeadRun.getT_eq s)
theorem run (w : World) : HandSHeadRun.RunEq R (PySem.W.view R.prog [24]) hk.hook ob 4000 names w := by
  intro os
  kernel_rfl
end L2.DL.W_k57

namespace L2.DL.W_k57
open PySem PySem.Spec PyProof.Rows L2 L2.DL
def bagT (d x c : Int) : T := .lst [.d (.int d), .d (.int x), .d (.int c)]
def BagOk (n : Int) (t : T) : Prop := ∃ d x c : Int, t = bagT d x c ∧ 0 ≤ d ∧ 0 ≤ x ∧ x < 12000000000000000000 ∧ 0 ≤ c ∧ c ≤ n
theorem told : F__law_are_told [] = .ret (.d (.bl true)) [] := by kernel_rfl
theorem take1 {d x c m : Int} (hd : 0 < d) (hm : 0 < m) (hl : m < 18446744073709551616) : F__law_take [bagT d x c, .d (.int m)] = .ret (.d (.int (d % m))) [bagT (d / m) x c] := by
  simp [F__law_take, mkF_e, den__law_take, bagT, hd, hm, hl, show ixN 3 0 = some 0 from rfl]
theorem take2 {x c m : Int} (hx0 : 0 ≤ x) (hx : x < 12000000000000000000) (hc0 : 0 ≤ c) (hc : c < 100000000000) (hm : 0 < m) : ∃ r, F__law_take [bagT 0 x c, .d (.int m)] = .ret (.d (.int (r % m))) [bagT 0 x (c + 1)] := by
  have h1 : (x + 1000033 * (c + 1)).natAbs < 18446744073709551616 := by omega
  have hm1 := Int.emod_lt_of_pos ((x + 1000033 * (c + 1)) ^ 3) (show (0 : Int) < 2305843009213693921 by decide)
  have hm0 := Int.emod_nonneg ((x + 1000033 * (c + 1)) ^ 3) (show (2305843009213693921 : Int) ≠ 0 by decide)
  have h2 : (((x + 1000033 * (c + 1)) ^ 3) % 2305843009213693921 + 32452843 * (c + 1)).natAbs < 18446744073709551616 := by omega
  have e1 : fMul (.int 1000033) (.int (c + 1)) = some (.d (.int (1000033 * (c + 1)))) := fMul_s (by decide) (by omega)
  have e2 : fMul (.int 32452843) (.int (c + 1)) = some (.d (.int (32452843 * (c + 1)))) := fMul_s (by decide) (by omega)
  have e3 : fPow (.int (x + 1000033 * (c + 1))) (.int 3) = some (.d (.int ((x + 1000033 * (c + 1)) ^ 3))) := fPow_i (by decide) (by decide) h1
  have e4 : fPow (.int (((x + 1000033 * (c + 1)) ^ 3) % 2305843009213693921 + 32452843 * (c + 1))) (.int 2) = some (.d (.int ((((x + 1000033 * (c + 1)) ^ 3) % 2305843009213693921 + 32452843 * (c + 1)) ^ 2))) := fPow_i (by decide) (by decide) h2
  exact ⟨_, by simp [F__law_take, mkF_e, den__law_take, bagT, hm, show ixN 3 2 = some 2 from rfl, e1, e2, e3, e4]; rfl⟩
theorem take_ok {n m : Int} {t : T} (h : BagOk n t) (hn : n < 100000000000) (hm : 0 < m) (hm1 : m < 18446744073709551616) : ∃ r t', F__law_take [t, .d (.int m)] = .ret (.d (.int r)) [t'] ∧ 0 ≤ r ∧ r < m ∧ BagOk (n + 1) t' := by
  obtain ⟨d, x, c, e, hd, hx0, hx, hc0, hc⟩ := h
  subst e
  by_cases h0 : 0 < d
  · exact ⟨_, _, take1 h0 hm hm1, Int.emod_nonneg _ (by omega), Int.emod_lt_of_pos _ hm, d / m, x, c, rfl, Int.ediv_nonneg (by omega) (by omega), hx0, hx, hc0, by omega⟩
  · have : d = 0 := by omega
    subst this
    obtain ⟨r, hr⟩ := take2 hx0 hx hc0 (show c < 100000000000 by omega) hm
    exact ⟨_, _, hr, Int.emod_nonneg _ (by omega), Int.emod_lt_of_pos _ hm, 0, x, c + 1, rfl, by omega, hx0, hx, by omega, by omega⟩
end L2.DL.W_k57

namespace L2.DL.W_k57
open PySem PySem.Spec PyProof.Rows L2 L2.DL
@[simp] theorem lend_bag (i : Nat) (δ : Env) (d x c : Int) : lendF i δ (some (bagT d x c)) = .ok (bagT d x c, some i) (δ.set i .hole) := rfl
theorem of_list {n : Int} {t : T} {xs : List D} (h : BagOk n t) (hn : n < 100000000000) (h0 : 0 < xs.length) (h1 : xs.length < 1000000) : ∃ y t', F__law_of [t, .d (.lst xs)] = .ret (.d y) [t'] ∧ y ∈ xs ∧ BagOk (n + 1) t' := by
  obtain ⟨r, t', hr, hr0, hr1, hb⟩ := take_ok h hn (m := xs.length) (by omega) (by omega)
  obtain ⟨d, x, c, e, _⟩ := h
  subst e
  obtain ⟨k, rfl⟩ := Int.eq_ofNat_of_zero_le hr0
  have hk : k < xs.length := by omega
  refine ⟨xs[k], t', ?_, List.getElem_mem hk, hb⟩
  simp [F__law_of, mkF_e, den__law_of, hr, atI_lit, hk]
theorem of_str {n : Int} {t : T} {z : Str} (h : BagOk n t) (hn : n < 100000000000) (h0 : 0 < z.length) (h1 : z.length < 1000000) : ∃ c t', F__law_of [t, .d (.str z)] = .ret (.d (.str ⟨#[c]⟩)) [t'] ∧ BagOk (n + 1) t' := by
  obtain ⟨r, t', hr, hr0, hr1, hb⟩ := take_ok h hn (m := z.length) (by omega) (by omega)
  obtain ⟨d, x, c, e, _⟩ := h
  subst e
  obtain ⟨k, rfl⟩ := Int.eq_ofNat_of_zero_le hr0
  have hk : k < z.length := by omega
  have hz : z.length ≤ szL := Nat.le_trans (Nat.le_of_lt h1) (by decide)
  have hk2 : k < z.cps.toList.length := by rw [Array.length_toList]; exact hk
  refine ⟨z.cps.toList[k], t', ?_, hb⟩
  have e : z.cps[k]? = some z.cps[k] := Array.getElem?_eq_getElem hk
  simp [F__law_of, mkF_e, den__law_of, hr, atI_lit, hz, e]
theorem bag_ok {ns : List Int} {at_ : Nat} (h : at_ < 63) (hl : ns.length < 1000) : ∃ t, F__law_bag [.d (.scr (ns.map D.int)), .d (.int at_)] = .ret t [] ∧ BagOk 0 t := by
  have gen : ∀ cell : Int, ∃ t, finR [] (sq (sSeq (sSet 3 (nIf (bV (nOp fGe (nCall fAbs (aCons (nFrz 2) (aNil))) (nOp fPow (nC (.int 10)) (nC (.int 18))))) (nCall fAbs (aCons (nFrz 2) (aNil))) (nC (.int 0)))) (sRet (nLst (aCons (nFrz 3) (aCons (nOp fAdd (nOp fAdd (nOp fMul (nOp fMod (nCall fInt (aCons (nFrz 2) (aNil))) (nC (.int 2305843009213693951))) (nC (.int 5))) (nOp fMul (nC (.int 6691)) (nFrz 1))) (nC (.int 3067))) (aCons (nC (.int 0)) (aNil))))))) (.ok .nx [.d (.scr (ns.map D.int)), .d (.int at_), .d (.int cell), .hole])) = .ret t [] ∧ BagOk 0 t := fun cell => by
    have m0 := Int.emod_nonneg cell (show (2305843009213693951 : Int) ≠ 0 by decide)
    have m1 := Int.emod_lt_of_pos cell (show (0 : Int) < 2305843009213693951 by decide)
    have e1 : fMul (.int (cell % 2305843009213693951)) (.int 5) = some (.d (.int (cell % 2305843009213693951 * 5))) := fMul_s (by omega) (by decide)
    have e2 : fMul (.int 6691) (.int at_) = some (.d (.int (6691 * at_))) := fMul_s (by decide) (by omega)
    by_cases hc : (1000000000000000000 : Int) ≤ if cell < 0 then -cell else cell
    · exact ⟨_, by simp [e1, e2, hc]; rfl, _, _, 0, rfl, by split <;> omega, by omega, by omega, by omega, by omega⟩
    · exact ⟨_, by simp [e1, e2, hc]; rfl, 0, _, 0, rfl, by omega, by omega, by omega, by omega, by omega⟩
  by_cases hlt : at_ < ns.length
  · have hlt2 : at_ < (ns.map D.int).length := by simpa using hlt
    obtain ⟨t, h1, h2⟩ := gen ns[at_]
    refine ⟨t, ?_, h2⟩
    rw [← h1]
    simp [F__law_bag, mkF_e, den__law_bag, hlt, atI_lit]
  · obtain ⟨t, h1, h2⟩ := gen 0
    refine ⟨t, ?_, h2⟩
    rw [← h1]
    simp [F__law_bag, mkF_e, den__law_bag, hlt]
end L2.DL.W_k57

namespace L2.DL.W_k57
open PySem PySem.Spec PyProof.Rows L2 L2.DL
def words : List Str := ["set", "end", "fill", "between", "clear", "take", "give", "move"]
theorem op_bad {t : Str} (h : t ∉ words) : F_operation [.d (.str t)] = .exn "Unknown" (some (["word"], [.str t])) [] := by
  simp only [words, List.mem_cons, List.not_mem_nil, or_false, not_or] at h
  obtain ⟨h1, h2, h3, h4, h5, h6, h7, h8⟩ := h
  simp [F_operation, mkF_e, den_operation, mcStr_n _ _ _ h1, mcStr_n _ _ _ h2, mcStr_n _ _ _ h3, mcStr_n _ _ _ h4, mcStr_n _ _ _ h5, mcStr_n _ _ _ h6, mcStr_n _ _ _ h7, mcStr_n _ _ _ h8, sts_Unknown]
theorem refused {t : Str} (h : t ∉ words) : F__law_refused [.d (.str t)] = .ret (.d (.bl true)) [] := by
  have c1 : xcl_Unknown "Unknown" = some true := by rfl
  have c2 : itx.get (.c "Unknown") (.c "RowsError") = some true := by rfl
  have c3 : itx.get (.c "Unknown") (.b "ValueError") = some true := by rfl
  have c4 : fIsi itab [.str t, .ty "str"] = some (.d (.bl true)) := by rfl
  simp [F__law_refused, mkF_e, den__law_refused, op_bad h, tryA_y _ _ _ _ c1, c2, c3, c4]
def wordsD : List D := words.map D.str
theorem told_words : F__law_op_words [] = .ret (.lst (wordsD.map T.d)) [] := by kernel_rfl
theorem fIn_words (z : Str) : fIn (.str z) (.lst wordsD) = some (.d (.bl (decide (z ∈ words)))) := fIn_strs z words
end L2.DL.W_k57

namespace L2.DL.W_k57
open PySem PySem.Spec PyProof.Rows L2 L2.DL
theorem strlen (x y : Str) : (x ++ y).length = x.length + y.length := by
  show (x.cps ++ y.cps).size = _
  exact Array.size_append
theorem fAdd_str {x y : Str} (h : x.length + y.length ≤ 1000000) : fAdd (.str x) (.str y) = some (.d (.str (x ++ y))) := if_pos (Nat.le_trans h (by decide))
theorem cut_len (z : Str) (lo hi : Option Int) : (cutS z lo hi).length ≤ z.length := by
  show (((z.cps.toList.drop _).take _).toArray).size ≤ z.cps.size
  rw [List.size_toArray, List.length_take, List.length_drop, Array.length_toList]
  omega
theorem marked : ∀ w ∈ words, w ++ "?" ∉ words := by decide +kernel
theorem words_len : ∀ w ∈ words, w.length ≤ 7 ∧ 0 < w.length := by decide +kernel
def otherBody : SM := (sSet 4 (nOp fAdd (nFrz 4) (nCallF 2 [0] [] F__law_of (lCons (rLend 0) (lCons (rVal (nC (.str "abcdefiklmnorstvw "))) (lNil))))))
theorem other_loop : ∀ (xs : List D) (n : Int) (t : T) (w s r : D) (z : Str), BagOk n t → n + xs.length < 1000 → z.length + xs.length ≤ 1000 →
    ∃ t' z', loopD (gN 5) otherBody [5] xs [t, .d w, .d s, .d r, .d (.str z), .hole] = .ok .nx [t', .d w, .d s, .d r, .d (.str z'), .hole] ∧ BagOk (n + xs.length) t' ∧ z'.length ≤ z.length + xs.length
  | [], n, t, w, s, r, z, h, _, _ => ⟨t, z, rfl, by simpa using h, by simp⟩
  | x :: xs, n, t, w, s, r, z, h, hn, hz => by
    have hn' : n + (xs.length + 1) < 1000 := by simpa using hn
    have hz' : z.length + (xs.length + 1) ≤ 1000 := by simpa using hz
    obtain ⟨c, t1, h1, hb⟩ := of_str (z := "abcdefiklmnorstvw ") h (by omega) (by decide) (by decide)
    obtain ⟨d0, x0, c0, e, _⟩ := h
    subst e
    have hz1 : (z ++ (⟨#[c]⟩ : Str)).length = z.length + 1 := by rw [strlen]; rfl
    obtain ⟨t2, z2, h2, hb2, hl2⟩ := other_loop xs (n + 1) t1 w s r (z ++ (⟨#[c]⟩ : Str)) hb (by omega) (by omega)
    have e1 : fAdd (.str z) (.str (⟨#[c]⟩ : Str)) = some (.d (.str (z ++ (⟨#[c]⟩ : Str)))) := fAdd_str (by show z.length + 1 ≤ _; omega)
    refine ⟨t2, z2, ?_, by have e : n + ((x :: xs).length : Int) = n + 1 + xs.length := by simp; omega
                           rw [e]; exact hb2, by simp; omega⟩
    rw [loopD_cons, ← h2]
    simp [otherBody, h1, e1]
def ifSt : SM := sIf (bV (nOp fEq (nFrz 3) (nC (.int 6)))) (sFor (iR1 (aCons (nCallF 2 [0] [] F__law_take (lCons (rLend 0) (lCons (rVal (nC (.int 9))) (lNil)))) (aNil))) (gN 5) [5] otherBody) (sNx)
theorem den_other : den__law_other_word = sSeq (sPar 1 2 (aCons (nCallF 2 [0] [] F__law_of (lCons (rLend 0) (lCons (rVal (nCallF 0 [] [] F__law_op_words lNil)) (lNil)))) (aCons (nCallF 2 [0] [] F__law_of (lCons (rLend 0) (lCons (rVal (nC (.str "aemst xSZ-"))) (lNil)))) (aNil)))) (sSeq (sSet 3 (nCallF 2 [0] [] F__law_take (lCons (rLend 0) (lCons (rVal (nC (.int 7))) (lNil))))) (sSeq (sSet 4 (nIx (nLst (aCons (nOp fAdd (nFrz 1) (nFrz 2)) (aCons (nSl (nFrz 1) (oSome (vC (.int 1))) (oNone)) (aCons (nOp fAdd (nFrz 2) (nFrz 1)) (aCons (nTx0 fUpper (nFrz 1)) (aCons (nSl (nFrz 1) (oNone) (oSome (vC (.int (-1))))) (aCons (nOp fAdd (nOp fAdd (nFrz 1) (nC (.str " "))) (nFrz 1)) (aCons (nC (.str "")) (aNil))))))))) (nFrz 3))) (sSeq ifSt (sRet (nIf (bV (nOp fIn (nFrz 4) (nCallF 0 [] [] F__law_op_words lNil))) (nOp fAdd (nFrz 4) (nC (.str "?"))) (nFrz 4)))))) := rfl
theorem other {n : Int} {t : T} (h : BagOk n t) (hn : n < 100) : ∃ z t', F__law_other_word [t] = .ret (.d (.str z)) [t'] ∧ z ∉ words := by
  obtain ⟨y, t1, h1, hy, hb1⟩ := of_list (xs := wordsD) h (by omega) (by decide) (by decide)
  obtain ⟨w, hw, rfl⟩ := List.mem_map.mp hy
  obtain ⟨c, t2, h2, hb2⟩ := of_str (z := "aemst xSZ-") hb1 (by omega) (by decide) (by decide)
  obtain ⟨r, t3, h3, hr0, hr1, hb3⟩ := take_ok (m := 7) hb2 (by omega) (by decide) (by decide)
  obtain ⟨hl, hl0⟩ := words_len w hw
  have A1 : fAdd (.str w) (.str (⟨#[c]⟩ : Str)) = some (.d (.str (w ++ (⟨#[c]⟩ : Str)))) := fAdd_str (by show w.length + 1 ≤ _; omega)
  have A2 : fAdd (.str (⟨#[c]⟩ : Str)) (.str w) = some (.d (.str ((⟨#[c]⟩ : Str) ++ w))) := fAdd_str (by show 1 + w.length ≤ _; omega)
  have A3 : fAdd (.str w) (.str " ") = some (.d (.str (w ++ " "))) := fAdd_str (by show w.length + 1 ≤ _; omega)
  have A4 : fAdd (.str (w ++ " ")) (.str w) = some (.d (.str (w ++ " " ++ w))) := fAdd_str (by rw [strlen]; show w.length + 1 + w.length ≤ _; omega)
  have hsz : w.length ≤ szL := Nat.le_trans hl (by decide)
  have A5 : sliceD (.str w) (some 1) none = some (.d (.str (cutS w (some 1) none))) := if_pos hsz
  have A6 : sliceD (.str w) none (some (-1)) = some (.d (.str (cutS w none (some (-1))))) := if_pos hsz
  have A7 : fUpper w = some (.str (Txt.upper w)) := if_pos (by omega)
  obtain ⟨z, hz, hzl⟩ : ∃ z : Str, ([w ++ (⟨#[c]⟩ : Str), cutS w (some 1) none, (⟨#[c]⟩ : Str) ++ w, Txt.upper w, cutS w none (some (-1)), w ++ " " ++ w, ""] : List Str)[r.toNat]? = some z ∧ z.length ≤ 100 := by
    have b1 := cut_len w (some 1) none
    have b2 := cut_len w none (some (-1))
    have b3 := PyProof.Rows.len_upper w
    have b4 : (w ++ (⟨#[c]⟩ : Str)).length = w.length + 1 := by rw [strlen]; rfl
    have b5 : ((⟨#[c]⟩ : Str) ++ w).length = 1 + w.length := by rw [strlen]; rfl
    have b6 : (w ++ " " ++ w).length = w.length + 1 + w.length := by rw [strlen, strlen]; rfl
    have : r = 0 ∨ r = 1 ∨ r = 2 ∨ r = 3 ∨ r = 4 ∨ r = 5 ∨ r = 6 := by omega
    rcases this with e | e | e | e | e | e | e <;> subst e <;> refine ⟨_, rfl, ?_⟩
    all_goals first
      | omega
      | decide
  obtain ⟨d0, x0, c0, e, _⟩ := h
  subst e
  obtain ⟨d1, x1, c1, e, _⟩ := id hb1
  subst e
  obtain ⟨d2, x2, c2, e, _⟩ := id hb2
  subst e
  obtain ⟨k, rfl⟩ := Int.eq_ofNat_of_zero_le hr0
  have hk : ((k : Int)).toNat = k := by simp
  rw [hk] at hz
  -- behind the loop
  obtain ⟨t4, z4, h4, hz4⟩ : ∃ t4 z4, ifSt [t3, .d (.str w), .d (.str (⟨#[c]⟩ : Str)), .d (.int k), .d (.str z), .hole] = .ok .nx [t4, .d (.str w), .d (.str (⟨#[c]⟩ : Str)), .d (.int k), .d (.str z4), .hole] ∧ z4.length ≤ 200 := by
    by_cases h6 : (k : Int) = 6
    · obtain ⟨q, t5, h5, hq0, hq1, hb5⟩ := take_ok (m := 9) hb3 (by omega) (by decide) (by decide)
      obtain ⟨d3, x3, c3, e, _⟩ := id hb3
      subst e
      have hql : (rngD 0 q.toNat).length = q.toNat := rngD_len
      obtain ⟨t6, z6, h7, hb6, hl6⟩ := other_loop (rngD 0 q.toNat) _ t5 (.str w) (.str (⟨#[c]⟩ : Str)) (.int k) z hb5 (by omega) (by omega)
      have hq3 : -4611686018427387904 ≤ q ∧ q < 4611686018427387904 := by omega
      refine ⟨t6, z6, ?_, by omega⟩
      simp [ifSt, h6, h5, hq3]
      rw [h6] at h7
      exact h7
    · have hb : ((k : Int) == 6) = false := beq_eq_false_iff_ne.mpr h6
      exact ⟨t3, z, by simp [ifSt, hb], by omega⟩
  have fin : (if z4 ∈ words then z4 ++ "?" else z4) ∉ words := by
    split
    · rename_i hm
      exact marked z4 hm
    · assumption
  refine ⟨_, t4, ?_, fin⟩
  have A8 : fAdd (.str z4) (.str "?") = some (.d (.str (z4 ++ "?"))) := fAdd_str (by show z4.length + 1 ≤ _; omega)
  have eat : ([D.str (w ++ (⟨#[c]⟩ : Str)), D.str (cutS w (some 1) none), D.str ((⟨#[c]⟩ : Str) ++ w), D.str (Txt.upper w), D.str (cutS w none (some (-1))), D.str (w ++ " " ++ w), D.str ""] : List D)[k]? = some (D.str z) := by
    have := congrArg (Option.map D.str) hz
    rw [← List.getElem?_map] at this
    exact this
  by_cases hm : z4 ∈ words
  · simp [F__law_other_word, mkF_e, den_other, h1, h2, h3, told_words, A1, A2, A3, A4, A5, A6, A7, atI_lit, eat, h4, fIn_words, hm, A8]
  · simp [F__law_other_word, mkF_e, den_other, h1, h2, h3, told_words, A1, A2, A3, A4, A5, A6, A7, atI_lit, eat, h4, fIn_words, hm, A8]
end L2.DL.W_k57

namespace L2.DL.W_k57
open PySem PySem.Spec PyProof.Rows L2 L2.DL
def lawBody : SM := (sIf (bNot (bV (nCallF 1 [] [] F__law_refused (lCons (rVal (nCallF 1 [0] [] F__law_other_word (lCons (rOwn (nCallF 2 [] [] F__law_bag (lCons (rVal (nFrz 0)) (lCons (rVal (nFrz 1)) (lNil))))) (lNil)))) (lNil))))) (sRet (nC (.bl false))) (sNx))
theorem law_loop (ns : List Int) (hl : ns.length < 1000) : ∀ (xs : List D), (∀ x ∈ xs, ∃ k : Nat, x = .int (k : Nat) ∧ k < 63) → loopD (gN 1) lawBody [1] xs [.d (.scr (ns.map D.int)), .hole] = .ok .nx [.d (.scr (ns.map D.int)), .hole]
  | [], _ => rfl
  | x :: xs, h => by
    obtain ⟨k, rfl, hk⟩ := h x List.mem_cons_self
    obtain ⟨t, h1, hb⟩ := bag_ok (ns := ns) hk hl
    obtain ⟨z, t', h2, hz⟩ := other hb (by decide)
    have ih := law_loop ns hl xs fun y hy => h y (List.mem_cons_of_mem _ hy)
    obtain ⟨d, x, c, e, _⟩ := hb
    subst e
    rw [loopD_cons]
    simp [lawBody, h1, h2, refused hz]
    exact ih
theorem law_holds {ns : List Int} (hl : ns.length ≤ 63) : F_law [.d (.scr (ns.map D.int))] = .ret (.d (.bl true)) [] := by
  have e : den_law = sSeq (sIf (bNot (bV (nCallF 0 [] [] F__law_are_told lNil))) (sRet (nC (.bl false))) (sNx)) (sSeq (sFor (iR1 (aCons (nCall fMax (aCons (nC (.int 1)) (aCons (nCall fMin (aCons (nC (.int 20)) (aCons (nCall fLen (aCons (nFrz 0) (aNil))) (aNil)))) (aNil)))) (aNil))) (gN 1) [1] lawBody) (sRet (nCallF 0 [] [] F__law_are_told lNil))) := rfl
  have hm : ∃ m : Int, (if (if (ns.length : Int) < 20 then (ns.length : Int) else 20) > 1 then (if (ns.length : Int) < 20 then (ns.length : Int) else 20) else 1) = m ∧ 0 ≤ m ∧ m ≤ 20 := ⟨_, rfl, by split <;> (try split) <;> omega, by split <;> (try split) <;> omega⟩
  obtain ⟨m, em, hm0, hm1⟩ := hm
  have lp := law_loop ns (by omega) (rngD 0 m.toNat) fun x hx => by
    obtain ⟨i, hi, e⟩ := List.mem_map.mp hx
    rw [List.mem_range] at hi
    exact ⟨i, by rw [← e]; simp, by omega⟩
  have hm2 : -4611686018427387904 ≤ m ∧ m < 4611686018427387904 := by omega
  simp [F_law, mkF_e, e, told, em, hm2, lp]
end L2.DL.W_k57

open PySem PySem.W PySem.Calls PyProof.Rows
theorem PySem.Challenge.cw_untilrows_k57_operations_told_holds : PySem.Challenge.rw_untilrows_k57_operations_told.Holds := by
  w_on; o_law
  refine HandSHeadRun.head_any (r := OpenLaw.row PySem.Challenge.rw_untilrows_k57_operations_told) (q := view (OpenLaw.row PySem.Challenge.rw_untilrows_k57_operations_told).prog [24]) (H := L2.DL.W_k57.hk.hook) (ob := L2.DL.W_k57.ob) (M := 4000) (loose := L2.DL.W_k57.names) (d := HandSHeadRun.topDef (OpenLaw.row PySem.Challenge.rw_untilrows_k57_operations_told).prog 24) (kwd := []) L2.DL.W_k57.ob_eq (by kernel_rfl) (fun s => by kernel_rfl) L2.DL.W_k57.run (by kernel_rfl) (by kernel_rfl) (by kernel_rfl) (by rfl) (by first | assumption | decide +kernel) (by decide +kernel) ⟨rfl, rfl, rfl, rfl, rfl, by decide +kernel⟩ ?hw ?hc
  case hw => w_witness2
  case hc =>
    refine L2.DL.walk_W (l := PySem.Challenge.rw_untilrows_k57_operations_told) (n := 63) (k := 5) (x := "script") (F := L2.DL.W_k57.F_law) rfl (by decide) (by kernel_rfl) ⟨rfl, by decide, by decide⟩ (fun ns hl => L2.DL.W_k57.law_holds hl) ?F
    intro w mg fa h Y G hmg0
    obtain ⟨K, KX, c⟩ := Y
    have e : (HandSHeadRun.topDef (OpenLaw.row PySem.Challenge.rw_untilrows_k57_operations_told).prog 24).name = ("law" : PySem.Str) := by kernel_rfl
    rw [e] at hmg0
    have C := L2.DL.W_k57.facts_of KX G rfl rfl c
    obtain ⟨fd, hb, hok⟩ := L2.DL.W_k57.law_fn (P := (PySem.Challenge.rw_untilrows_k57_operations_told).prog) (w := w) C
    cases hmg0.symm.trans C.g_law
    exact ⟨K, fd, KX, hb, fun base _ _ => hok base⟩
