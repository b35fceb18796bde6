import PyProof.Rows.All
import Wide.All
import OpenK.AllK
import Wide.FinOn
import HandS.ForSpec
import HandS.ForMost
import HandS.Defaults
import HandS.Walk
import HandS.HeadHook1
import KE.KDictKeyed
import KE.KDictLaw
import KE.KDictDisplayH
import HandS.TupAny
import HandS.Wide
import HandS.IsInst
import HandS.Style
import KE.GoesEnum
import HandS.Zip
import HandS.CallSlots
import HandS.ExcInit
import HandS.ExcField
import HandS.ExcIs
import PyProof.ListStr
import HandS.DictSub
import OpenK.KMake
import HandS.TupMul
import PyProof.SliceStr2
import HandS.Strs
import HandS.Codes
import PySem.Challenge.RW_drumturns_k83_bells_that_are_alike
import HandS.HeadHook4
import KE.KStateDown
import HandS.Head0
import HandS.Head1
import HandS.Head2
import HandS.HeadEnd
import HandS.HeadHook2
import HandS.HeadHook3
set_option Elab.async false
set_option linter.all false
set_option maxRecDepth 100000
set_option maxHeartbeats 2000000
/-! TL0: dicts whose keys are nested tuples, in the abstract heap. -/
namespace TL
open PySem PySem.Spec PyProof.Rows L2
abbrev Ents := List (NestedKey × Addr × V)
def entN (w : World) (x : NestedKey × Addr × Value) : DictEntry := ⟨x.1.hash w, .ref x.2.1, x.2.2⟩
abbrev KN (es : Ents) (xs : List (NestedKey × Addr × Value)) : Prop := Paired (fun (p : NestedKey × Addr × V) (q : NestedKey × Addr × Value) => p.1 = q.1 ∧ p.2.1 = q.2.1 ∧ RelV p.2.2 q.2.2) es xs
def DctR (w : World) (h : Heap) (p : Addr) (es : Ents) : Prop := es.length ≤ sizeLine ∧ (p == sysModules) = false ∧ ∃ xs, KN es xs ∧ (xs.map (·.1)).Nodup ∧ ∃ o ar ep, h.get? p = some o ∧ o.ExactDict ∧ o.data = .dict ar ep ∧ ar.toList = xs.map (entN w)
def DctO (w : World) (p : Addr) (es : Ents) : HO := .ext fun h => DctR w h p es
theorem dct_ok {P : Program} {w : World} {H : Hp} {h : Heap} {p : Addr} {es : Ents} (r : DctR w h p es) : ObjOk P w H h p (DctO w p es) := by
  have r0 := r
  obtain ⟨_, _, xs, _, _, o, _, _, ho, _⟩ := r
  exact ⟨r0, ⟨o, ho⟩, fun h1 h2 ⟨a, b, xs, c, d, o, ar, ep, e, f⟩ k => ⟨a, b, xs, c, d, o, ar, ep, k o e, f⟩⟩
section
variable {X : Cx} {pins : List (Addr × Obj)} {σ : L2.St} {H : Hp} {s : Shared} {p : Addr} {es : Ents} {A : Around} {E : Value → Shared → Prop}
theorem dct_get (I : Inv X pins σ H s) (hp : H p = some (DctO X.w p es)) : DctR X.w s.heap p es := (I.hok p _ hp).1
/-- where the keys' tuples stand -/
def KeysAt (h : Heap) (es : Ents) : Prop := ∀ e ∈ es, NestedIs h e.1 (.ref e.2.1) ∧ e.1.depth ≤ 8
theorem kn_mem : ∀ {es : Ents} {xs : List (NestedKey × Addr × Value)}, KN es xs → ∀ x ∈ xs, ∃ e ∈ es, e.1 = x.1 ∧ e.2.1 = x.2.1
  | _, _, .nil, x, hx => by cases hx
  | _, _, .cons r t, x, hx => by
    rcases List.mem_cons.mp hx with rfl | hx
    · exact ⟨_, List.mem_cons_self .., r.1, r.2.1⟩
    · obtain ⟨e, he, q⟩ := kn_mem t x hx
      exact ⟨e, List.mem_cons_of_mem _ he, q⟩
theorem dct_of (r : DctR X.w s.heap p es) (hk : KeysAt s.heap es) : ∃ xs, KN es xs ∧ s.heap.DictOfH (nestedKind X.prog X.w) p xs := by
  obtain ⟨_, _, xs, h1, h2, o, ar, ep, ho, hx, hd, ha⟩ := r
  refine ⟨xs, h1, o, ar, ep, ho, hx, hd, ha, fun x hx => ?_, h2⟩
  obtain ⟨e, he, e1, e2⟩ := kn_mem h1 x hx
  have := hk e he
  rw [e1, e2] at this
  exact this
theorem dct_back {P : Program} {w : World} {h : Heap} {xs : List (NestedKey × Addr × Value)} (hl : es.length ≤ sizeLine) (hs : (p == sysModules) = false) (k : KN es xs) (d : h.DictOfH (nestedKind P w) p xs) : DctR w h p es := by
  obtain ⟨o, ar, ep, ho, hx, hd, ha, _, hn⟩ := d
  exact ⟨hl, hs, xs, k, hn, o, ar, ep, ho, hx, hd, ha⟩
/-- the value at a key -/
def atN (es : Ents) (k : NestedKey) : Option V := (es.find? fun e => decide (e.1 = k)).map (·.2.2)
def putN (es : Ents) (k : NestedKey) (b : Addr) (v : V) : Ents := if (atN es k).isSome then es.map (fun e => if e.1 = k then (e.1, e.2.1, v) else e) else es ++ [(k, b, v)]
theorem kn_at (k : NestedKey) : ∀ {es : Ents} {xs : List (NestedKey × Addr × Value)}, KN es xs → RelO (atN es k) ((atKey xs k).map (·.2))
  | _, _, .nil => by simp [atN, atKey, RelO]
  | e :: es, x :: xs, .cons r t => by
    have ih := kn_at k t
    unfold atN atKey at ih ⊢
    by_cases h : e.1 = k
    · have h' : x.1 = k := r.1 ▸ h
      simp only [List.find?_cons, h, h', decide_true, Option.map_some]
      exact r.2.2
    · have h' : ¬ x.1 = k := fun z => h (r.1.trans z)
      simp only [List.find?_cons, h, h', decide_false]
      exact ih
theorem kn_map (k : NestedKey) {v : V} {u : Value} (rv : RelV v u) : ∀ {es : Ents} {xs : List (NestedKey × Addr × Value)}, KN es xs → KN (es.map fun e => if e.1 = k then (e.1, e.2.1, v) else e) (xs.map (putAt k u))
  | _, _, .nil => .nil
  | p :: es, q :: xs, .cons h t => by
    refine Paired.cons ?_ (kn_map k rv t)
    show (if p.1 = k then (p.1, p.2.1, v) else p).1 = (putAt k u q).1 ∧ (if p.1 = k then (p.1, p.2.1, v) else p).2.1 = (putAt k u q).2.1 ∧ RelV (if p.1 = k then (p.1, p.2.1, v) else p).2.2 (putAt k u q).2.2
    unfold putAt
    by_cases hk : p.1 = k
    · rw [if_pos hk, if_pos (h.1 ▸ hk)]; exact ⟨h.1, h.2.1, rv⟩
    · rw [if_neg hk, if_neg (fun z => hk (h.1.trans z))]; exact h
theorem kn_snoc (k : NestedKey) (b : Addr) {v : V} {u : Value} (rv : RelV v u) : ∀ {es : Ents} {xs : List (NestedKey × Addr × Value)}, KN es xs → KN (es ++ [(k, b, v)]) (xs ++ [(k, b, u)])
  | _, _, .nil => .cons ⟨rfl, rfl, rv⟩ .nil
  | _, _, .cons h t => .cons h (kn_snoc k b rv t)
theorem kn_put {es : Ents} {xs : List (NestedKey × Addr × Value)} (k : NestedKey) (b : Addr) {v : V} {u : Value} (r : KN es xs) (rv : RelV v u) : KN (putN es k b v) (storedH xs k b u) := by
  have h1 := (kn_at k r)
  have e : (atN es k).isSome = (atKey xs k).isSome := by rw [h1.isSome_eq, Option.isSome_map]
  unfold putN storedH
  rw [← e]
  split
  · exact kn_map k rv r
  · exact kn_snoc k b rv r
theorem putN_len (es : Ents) (k : NestedKey) (b : Addr) (v : V) : (putN es k b v).length ≤ es.length + 1 := by
  unfold putN; split <;> simp
theorem nroom (hu : A.units + 66 < cLine) : (nestedKind X.prog X.w).room A.in1 := by show A.units + 1 + 8 < cLine; omega
variable {k : NestedKey} {b : Addr} {y : V} {u r : Value}
/-- k not in d -/
theorem n_notIn {Q : Value → Shared → Prop} (hu : A.units + 66 < cLine) (I : Inv X pins σ H s) (hp : H p = some (DctO X.w p es)) (hk : KeysAt s.heap es) (kb : NestedIs s.heap k (.ref b) ∧ k.depth ≤ 8) (h : ∀ s', Inv X pins σ H s' → Q (.bool (!(atN es k).isSome)) s') :
    wpAny (model X.prog X.w) A (compareOp .NotIn (.ref b) (.ref p)) Q E s := by
  have R := dct_get I hp
  obtain ⟨xs, h1, h2⟩ := dct_of R hk
  refine wpAny_notIn_heap (knd := nestedKind X.prog X.w) (nroom hu) kb R.2.1 h2 ?_
  have q := (kn_at k h1).isSome_eq
  rw [Option.isSome_map] at q
  rw [← q]
  exact h _ (I.tok _)
theorem n_in {Q : Value → Shared → Prop} (hu : A.units + 66 < cLine) (I : Inv X pins σ H s) (hp : H p = some (DctO X.w p es)) (hk : KeysAt s.heap es) (kb : NestedIs s.heap k (.ref b) ∧ k.depth ≤ 8) (h : ∀ s', Inv X pins σ H s' → Q (.bool (atN es k).isSome) s') :
    wpAny (model X.prog X.w) A (compareOp .In (.ref b) (.ref p)) Q E s := by
  have R := dct_get I hp
  obtain ⟨xs, h1, h2⟩ := dct_of R hk
  refine wpAny_in_heap (knd := nestedKind X.prog X.w) (nroom hu) kb R.2.1 h2 ?_
  have q := (kn_at k h1).isSome_eq
  rw [Option.isSome_map] at q
  rw [← q]
  exact h _ (I.tok _)
/-- d[k] -/
theorem n_getItem {Q : Value → Shared → Prop} {v : V} (hu : A.units + 66 < cLine) (I : Inv X pins σ H s) (hp : H p = some (DctO X.w p es)) (hk : KeysAt s.heap es) (kb : NestedIs s.heap k (.ref b) ∧ k.depth ≤ 8) (hv : atN es k = some v) (h : ∀ w' s', Inv X pins σ H s' → RelV v w' → Q w' s') :
    wpAny (model X.prog X.w) A (getItem (.ref p) (.ref b)) Q E s := by
  have R := dct_get I hp
  obtain ⟨xs, h1, h2⟩ := dct_of R hk
  obtain ⟨w', hw, rw'⟩ := RelO.some_of (v := v) (o := (atKey xs k).map (·.2)) (by rw [← hv]; exact kn_at k h1)
  obtain ⟨q, hq, hq2⟩ := Option.map_eq_some_iff.mp hw
  refine wpAny_getItem_heap (knd := nestedKind X.prog X.w) (nroom hu) kb h2 hq ?_
  rw [hq2]
  exact h w' _ (I.tok _) rw'
theorem n_write {h' : Heap} {t' : Nat} {es' : Ents} (I : Inv X pins σ H s) (hp : H p = some (DctO X.w p es)) (hs : Heap.SameBut p s.heap h') (R : DctR X.w h' p es') : Inv X pins σ (upd H p (DctO X.w p es')) { s with heap := h', toks := t' } := by
  have he : ∃ q, h'.get? p = some q := let ⟨_, _, _, _, _, o, _, _, ho, _⟩ := R; ⟨o, ho⟩
  exact d_write I (by rw [hp]; exact True.intro) hs he (dct_ok R)
/-- d[k] = v -/
theorem n_setItem {Q : Unit → Shared → Prop} {v : V} (hu : A.units + 66 < cLine) (I : Inv X pins σ H s) (hp : H p = some (DctO X.w p es)) (hk : KeysAt s.heap es) (kb : NestedIs s.heap k (.ref b) ∧ k.depth ≤ 8) (hl : es.length < sizeLine) (rv : RelV v r) (h : ∀ s', Inv X pins σ (upd H p (DctO X.w p (putN es k b v))) s' → Q () s') :
    wpAny (model X.prog X.w) A (setItem (.ref p) (.ref b) r) Q E s := by
  have R := dct_get I hp
  obtain ⟨xs, h1, h2⟩ := dct_of R hk
  have hz : xs.length ≤ sizeLine := by rw [← Paired.length h1]; exact R.1
  refine wpAny_setItem_heap (knd := nestedKind X.prog X.w) (hsz := hz) (nroom hu) kb h2 fun h' hm hs => ?_
  exact h _ (n_write I hp hs (dct_back (by have := putN_len es k b v; omega) R.2.1 (kn_put k b h1 rv) hm))
/-- d.setdefault(k, v) -/
theorem n_setdefault {Q : Value → Shared → Prop} {v : V} (hu : A.units + 66 < cLine) (I : Inv X pins σ H s) (hp : H p = some (DctO X.w p es)) (hk : KeysAt s.heap es) (kb : NestedIs s.heap k (.ref b) ∧ k.depth ≤ 8) (hl : es.length < sizeLine) (rv : RelV v r)
    (h1 : ∀ w w' s', atN es k = some w → Inv X pins σ H s' → RelV w w' → Q w' s') (h0 : ∀ s', atN es k = none → Inv X pins σ (upd H p (DctO X.w p (es ++ [(k, b, v)]))) s' → Q r s') :
    wpAny (model X.prog X.w) A (call (.builtin "dict.setdefault") [.ref p, .ref b, r]) Q E s := by
  have R := dct_get I hp
  obtain ⟨xs, q1, q2⟩ := dct_of R hk
  have hz : xs.length ≤ sizeLine := by rw [← Paired.length q1]; exact R.1
  have ra := kn_at k q1
  refine call_setdefault_heap (knd := nestedKind X.prog X.w) (hsz := hz) (nroom hu) kb R.2.1 q2 (fun q hq => ?_) fun hn h' hm hs => ?_
  · rw [hq] at ra
    cases e : atN es k with
    | none => rw [e] at ra; exact ra.elim
    | some w0 => rw [e] at ra; exact h1 w0 q.2 _ e (I.tok _) ra
  · rw [hn] at ra
    cases e : atN es k with
    | some w0 => rw [e] at ra; exact ra.elim
    | none =>
      have kp := kn_put k b q1 rv
      have ep : putN es k b v = es ++ [(k, b, v)] := by unfold putN; rw [e]; rfl
      rw [ep] at kp
      exact h0 _ e (n_write I hp hs (dct_back (by simp; omega) R.2.1 kp hm))
/-- len(d) -/
theorem n_len {Q : Value → Shared → Prop} (I : Inv X pins σ H s) (hp : H p = some (DctO X.w p es)) (hk : KeysAt s.heap es) (h : ∀ t s', Inv X pins σ H s' → Q (.int es.length t) s') : wpAny (model X.prog X.w) A (call (.builtin "len") [.ref p]) Q E s := by
  have R := dct_get I hp
  obtain ⟨xs, q1, q2⟩ := dct_of R hk
  have hz := sizeLine_eq
  have hl : es.length = (pairsH xs).length := by rw [pairsH_length, Paired.length q1]
  have hm : s.heap.DictKeyed (nestedKind X.prog X.w) p (pairsH xs) := ⟨xs, q2, rfl⟩
  refine PyProof.Rows.call_len_slot (n := (pairsH xs).length) hm.typeIs F.slot_dict_len (fun Q' hq => len_keyed R.2.1 hm hq) (by rw [← hl]; have := R.1; omega) (by rw [← hl]; have := R.1; omega) ?_
  rw [← hl]
  exact h _ _ (I.tok _)
theorem n_new (h : Heap) (hb : sysModules < h.objs.size) (w : World) : DctR w (h.push { cls := .type "dict", data := .dict #[] }) h.objs.size [] :=
  ⟨Nat.zero_le _, beq_eq_false_iff_ne.mpr (Ne.symm (Nat.ne_of_lt hb)), [], .nil, List.nodup_nil, _, #[], 0, Heap.get?_push_size _ rfl, ⟨rfl, rfl, rfl⟩, rfl, rfl⟩
end
end TL
set_option Elab.async false
set_option linter.all false
set_option maxRecDepth 100000
set_option maxHeartbeats 2000000
/-! TL1: data as trees over the abstract heap. -/
namespace TL
open PySem PySem.Spec PyProof.Rows L2

/-- data: immutable trees; lst, sel at the top of a slot may be changed -/
inductive D where
  | non | bl (b : Bool) | int (i : Int) | str (x : Str)
  | tup (ds : List D) | lst (ds : List D)
  | obj (c : Str) (ns : List Str) (ds : List D)
  | sel (x : Addr) (c : Str) (ns : List Str) (ds : List D)
  | hnd (a : Addr)
  | xdt (ns : List Str) (ds : List D)
  | dct (w : World) (kd ds : List D)

/-- what may be changed in place -/
def D.top : D → Bool
  | .lst _ => true
  | .sel _ _ _ _ => true
  | .dct _ _ _ => true
  | _ => false

mutual
/-- a tree as a key -/
def D.nk : D → NestedKey
  | .non => .none
  | .bl b => .num (if b = true then 1 else 0)
  | .int i => .num i
  | .str x => .text x
  | .tup ds => .tup (nks ds)
  | _ => .none
def nks : List D → List NestedKey
  | [] => []
  | d :: ds => d.nk :: nks ds
end
mutual
def D.nkPl : D → Bool
  | .non => true
  | .bl _ => true
  | .int _ => true
  | .str _ => true
  | .tup ds => nkPls ds
  | _ => false
def nkPls : List D → Bool
  | [] => true
  | d :: ds => d.nkPl && nkPls ds
end
def D.isTup : D → Bool
  | .tup _ => true
  | _ => false
/-- what may be a key -/
def D.kOk (d : D) : Prop := d.isTup = true ∧ d.nkPl = true ∧ d.nk.depth ≤ 8
/-- the ground: the written part, what the store's ghost says -/
structure B where
  K : PySem.W.Frag
  G : Type
  Γ : Addr → Prop
  Φ : G → Hp → Prop
  stab : ∀ g H H', Φ g H → (∀ a o, Γ a → H a = some o → H' a = some o) → Φ g H'
  there : ∀ g H a, Φ g H → Γ a → H a ≠ none

section
variable (b : B) (N : Addr → Prop) (H : Hp)
mutual
def Rep : D → V → Prop
  | .non, v => v = .non
  | .bl c, v => v = .bl c
  | .int i, v => v = .int i
  | .str x, v => v = .str x
  | .tup ds, v => ∃ p vs, v = .ref p ∧ ¬ b.Γ p ∧ SqT b.K H p vs ∧ Reps ds vs
  | .lst ds, v => ∃ p vs, v = .ref p ∧ ¬ b.Γ p ∧ ¬ N p ∧ H p = some (.lst vs) ∧ Reps ds vs
  | .obj c ns ds, v => ∃ p dx fs, v = .ref p ∧ ¬ b.Γ p ∧ ¬ N p ∧ H p = some (.ins (He.ga b.K c) dx fs) ∧ fs.map (·.1) = ns ∧ Reps ds (fs.map (·.2))
  | .sel ax c ns ds, v => ∃ p dx fs, v = .ref p ∧ ¬ b.Γ p ∧ ¬ N p ∧ H p = some (.ins (He.ga b.K c) dx fs) ∧ (p = ax ∧ fs.map (·.1) = ns) ∧ Reps ds (fs.map (·.2))
  | .hnd a, v => v = .ref a
  | .dct w kd ds, v => ∃ p es, v = .ref p ∧ ¬ b.Γ p ∧ ¬ N p ∧ H p = some (DctO w p es) ∧ (es.map (·.1) = nks kd ∧ ∀ d ∈ kd, d.kOk) ∧ Reps kd (es.map fun e => V.ref e.2.1) ∧ Reps ds (es.map fun e => e.2.2)
  | .xdt ns ds, v => ∃ p fs, v = .ref p ∧ ¬ b.Γ p ∧ ¬ N p ∧ H p = some (.xd fs) ∧ fs.map (·.1) = ns ∧ Reps ds (fs.map (·.2))
def Reps : List D → List V → Prop
  | [], vs => vs = []
  | d :: ds, vs => ∃ v r, vs = v :: r ∧ Rep d v ∧ Reps ds r
end
/-- .. where the top may be in N -/
def RepB : D → V → Prop
  | .lst ds, v => ∃ p vs, v = .ref p ∧ ¬ b.Γ p ∧ H p = some (.lst vs) ∧ Reps b N H ds vs
  | .sel ax c ns ds, v => ∃ p dx fs, v = .ref p ∧ ¬ b.Γ p ∧ H p = some (.ins (He.ga b.K c) dx fs) ∧ (p = ax ∧ fs.map (·.1) = ns) ∧ Reps b N H ds (fs.map (·.2))
  | .dct w kd ds, v => ∃ p es, v = .ref p ∧ ¬ b.Γ p ∧ H p = some (DctO w p es) ∧ (es.map (·.1) = nks kd ∧ ∀ d ∈ kd, d.kOk) ∧ Reps b N H kd (es.map fun e => V.ref e.2.1) ∧ Reps b N H ds (es.map fun e => e.2.2)
  | d, v => Rep b N H d v
end

variable {b : B} {N N' : Addr → Prop} {H H' H1 H2 : Hp} {d : D} {v : V} {ds : List D} {vs : List V}

theorem Rep.toB (h : Rep b N H d v) : RepB b N H d v := by
  cases d with
  | lst ds => obtain ⟨p, vs, e, g, n, q, r⟩ := h; exact ⟨p, vs, e, g, q, r⟩
  | sel ax c ns ds => obtain ⟨p, dx, fs, e, g, n, q, r⟩ := h; exact ⟨p, dx, fs, e, g, q, r⟩
  | dct w kd ds => obtain ⟨p, es, e, g, n, q, r⟩ := h; exact ⟨p, es, e, g, q, r⟩
  | _ => exact h
theorem RepB.of (h : RepB b N H d v) (t : d.top = false) : Rep b N H d v := by
  cases d with
  | lst ds => cases t
  | sel ax c ns ds => cases t
  | dct w kd ds => cases t
  | _ => exact h

theorem reps_nil : Reps b N H [] [] := rfl
theorem reps_cons (h : Rep b N H d v) (r : Reps b N H ds vs) : Reps b N H (d :: ds) (v :: vs) := ⟨v, vs, rfl, h, r⟩
theorem Reps.length : ∀ {ds : List D} {vs : List V}, Reps b N H ds vs → ds.length = vs.length
  | [], vs, h => by cases (show vs = [] from h); rfl
  | d :: ds, vs, h => by
    obtain ⟨v, r, e, _, hr⟩ := h
    subst e
    simp [Reps.length hr]
theorem Reps.append : ∀ {ds es : List D} {vs us : List V}, Reps b N H ds vs → Reps b N H es us → Reps b N H (ds ++ es) (vs ++ us)
  | [], _, vs, _, h, q => by cases (show vs = [] from h); exact q
  | d :: ds, _, _, _, h, q => by
    obtain ⟨v, r, e, h1, h2⟩ := h
    subst e
    exact ⟨v, _, rfl, h1, Reps.append h2 q⟩
theorem Reps.get : ∀ {ds : List D} {vs : List V} {i : Nat} {d : D}, Reps b N H ds vs → ds[i]? = some d → ∃ v, vs[i]? = some v ∧ Rep b N H d v
  | [], _, _, _, _, e => by simp at e
  | x :: ds, vs, 0, d, h, e => by
    obtain ⟨v, r, e1, h1, _⟩ := h
    subst e1
    simp at e
    subst e
    exact ⟨v, rfl, h1⟩
  | x :: ds, vs, i + 1, d, h, e => by
    obtain ⟨v, r, e1, _, h2⟩ := h
    subst e1
    obtain ⟨u, q1, q2⟩ := Reps.get (i := i) h2 (by simpa using e)
    exact ⟨u, by simpa using q1, q2⟩
theorem Reps.getV : ∀ {ds : List D} {vs : List V} {i : Nat} {v : V}, Reps b N H ds vs → vs[i]? = some v → ∃ d, ds[i]? = some d ∧ Rep b N H d v
  | [], vs, i, v, h, e => by cases (show vs = [] from h); simp at e
  | x :: ds, vs, 0, d, h, e => by
    obtain ⟨v, r, e1, h1, _⟩ := h
    subst e1
    simp at e
    subst e
    exact ⟨x, rfl, h1⟩
  | x :: ds, vs, i + 1, d, h, e => by
    obtain ⟨v, r, e1, _, h2⟩ := h
    subst e1
    obtain ⟨u, q1, q2⟩ := Reps.getV (i := i) h2 (by simpa using e)
    exact ⟨u, by simpa using q1, q2⟩
theorem Reps.take : ∀ {ds : List D} {vs : List V} (n : Nat), Reps b N H ds vs → Reps b N H (ds.take n) (vs.take n)
  | [], vs, n, h => by cases (show vs = [] from h); simp; exact reps_nil
  | d :: ds, vs, 0, h => by simp; exact reps_nil
  | d :: ds, vs, n + 1, h => by
    obtain ⟨v, r, e, h1, h2⟩ := h
    subst e
    exact ⟨v, _, rfl, h1, Reps.take n h2⟩
theorem Reps.drop : ∀ {ds : List D} {vs : List V} (n : Nat), Reps b N H ds vs → Reps b N H (ds.drop n) (vs.drop n)
  | ds, vs, 0, h => h
  | [], vs, n + 1, h => by cases (show vs = [] from h); exact reps_nil
  | d :: ds, vs, n + 1, h => by
    obtain ⟨v, r, e, h1, h2⟩ := h
    subst e
    exact Reps.drop n h2
theorem Reps.set : ∀ {ds : List D} {vs : List V} (i : Nat), Reps b N H ds vs → Rep b N H d v → Reps b N H (ds.set i d) (vs.set i v)
  | [], vs, i, h, q => by cases (show vs = [] from h); exact reps_nil
  | x :: ds, vs, 0, h, q => by
    obtain ⟨v, r, e, h1, h2⟩ := h
    subst e
    exact ⟨_, _, rfl, q, h2⟩
  | x :: ds, vs, i + 1, h, q => by
    obtain ⟨v, r, e, h1, h2⟩ := h
    subst e
    exact ⟨_, _, rfl, h1, Reps.set i h2 q⟩
theorem Reps.reverse : ∀ {ds : List D} {vs : List V}, Reps b N H ds vs → Reps b N H ds.reverse vs.reverse
  | [], vs, h => by cases (show vs = [] from h); exact reps_nil
  | d :: ds, vs, h => by
    obtain ⟨v, r, e, h1, h2⟩ := h
    subst e
    simp only [List.reverse_cons]
    exact (Reps.reverse h2).append (reps_cons h1 reps_nil)
theorem Reps.rep (h : Reps b N H ds vs) : ∀ k : Nat, Reps b N H (List.replicate k ds).flatten (List.replicate k vs).flatten
  | 0 => reps_nil
  | k + 1 => by
    rw [List.replicate_succ, List.replicate_succ, List.flatten_cons, List.flatten_cons]
    exact h.append (Reps.rep h k)
theorem Reps.eraseIdx : ∀ {ds : List D} {vs : List V} (i : Nat), Reps b N H ds vs → Reps b N H (ds.eraseIdx i) (vs.eraseIdx i)
  | [], vs, i, h => by cases (show vs = [] from h); exact reps_nil
  | x :: ds, vs, 0, h => by
    obtain ⟨v, r, e, h1, h2⟩ := h
    subst e
    exact h2
  | x :: ds, vs, i + 1, h => by
    obtain ⟨v, r, e, h1, h2⟩ := h
    subst e
    exact ⟨_, _, rfl, h1, Reps.eraseIdx i h2⟩
theorem Reps.dropLast (h : Reps b N H ds vs) : Reps b N H ds.dropLast vs.dropLast := by
  rw [List.dropLast_eq_take, List.dropLast_eq_take, h.length]
  exact h.take _

/-- what a representation leans on -/
def Stay (b : B) (N : Addr → Prop) (H H' : Hp) : Prop := ∀ a o, H a = some o → ¬ b.Γ a → ((∃ xs, Rd H a (.tup xs)) ∨ ¬ N a) → H' a = some o
theorem sqT_stay {p : Addr} (k : Stay b N H H') (g : ¬ b.Γ p) (h : SqT b.K H p vs) : SqT b.K H' p vs := by
  rcases h with (h | ⟨o, h⟩) | h
  · exact .inl (.inl (k _ _ h g (.inl ⟨_, .inl h⟩)))
  · exact .inl (.inr ⟨o, k _ _ h g (.inl ⟨_, .inr ⟨o, h⟩⟩)⟩)
  · exact .inr h
mutual
theorem Rep.stay (k : Stay b N H H') (kn : ∀ a, N' a → N a ∨ H a = none) : ∀ {d : D} {v : V}, Rep b N H d v → Rep b N' H' d v
  | .non, _, h => h
  | .bl _, _, h => h
  | .int _, _, h => h
  | .str _, _, h => h
  | .tup ds, v, h => by
    obtain ⟨p, vs, e, g, q, r⟩ := h
    exact ⟨p, vs, e, g, sqT_stay k g q, Reps.stay k kn r⟩
  | .lst ds, v, h => by
    obtain ⟨p, vs, e, g, n, q, r⟩ := h
    exact ⟨p, vs, e, g, fun z => (kn p z).elim n (fun z => by rw [z] at q; cases q), k _ _ q g (.inr n), Reps.stay k kn r⟩
  | .obj c ns ds, v, h => by
    obtain ⟨p, dx, fs, e, g, n, q, f, r⟩ := h
    exact ⟨p, dx, fs, e, g, fun z => (kn p z).elim n (fun z => by rw [z] at q; cases q), k _ _ q g (.inr n), f, Reps.stay k kn r⟩
  | .sel ax c ns ds, v, h => by
    obtain ⟨p, dx, fs, e, g, n, q, f, r⟩ := h
    exact ⟨p, dx, fs, e, g, fun z => (kn p z).elim n (fun z => by rw [z] at q; cases q), k _ _ q g (.inr n), f, Reps.stay k kn r⟩
  | .dct w kd ds, v, h => by
    obtain ⟨p, es, e, g, n, q, f, r1, r2⟩ := h
    exact ⟨p, es, e, g, fun z => (kn p z).elim n (fun z => by rw [z] at q; cases q), k _ _ q g (.inr n), f, Reps.stay k kn r1, Reps.stay k kn r2⟩
  | .hnd _, _, h => h
  | .xdt ns ds, v, h => by
    obtain ⟨p, fs, e, g, n, q, f, r⟩ := h
    exact ⟨p, fs, e, g, fun z => (kn p z).elim n (fun z => by rw [z] at q; cases q), k _ _ q g (.inr n), f, Reps.stay k kn r⟩
theorem Reps.stay (k : Stay b N H H') (kn : ∀ a, N' a → N a ∨ H a = none) : ∀ {ds : List D} {vs : List V}, Reps b N H ds vs → Reps b N' H' ds vs
  | [], _, h => h
  | d :: ds, vs, h => by
    obtain ⟨v, r, e, h1, h2⟩ := h
    exact ⟨v, r, e, Rep.stay k kn h1, Reps.stay k kn h2⟩
end
theorem Stay.refl : Stay b N H H := fun _ _ e _ _ => e
/-- all but the ghost's is kept -/
def Keep (b : B) (H H' : Hp) : Prop := ∀ a o, H a = some o → ¬ b.Γ a → H' a = some o
theorem Keep.refl : Keep b H H := fun _ _ e _ => e
theorem Keep.trans (x : Keep b H H1) (y : Keep b H1 H2) : Keep b H H2 := fun a o e g => y a o (x a o e g) g
theorem Keep.stay (x : Keep b H H') : Stay b N H H' := fun a o e g _ => x a o e g
theorem Keep.same (s : Same H H') : Keep b H H' := fun a o e _ => s a o e
theorem Rep.keep (x : Keep b H H') (h : Rep b N H d v) : Rep b N H' d v := h.stay x.stay fun _ z => .inl z
theorem Reps.keep (x : Keep b H H') (h : Reps b N H ds vs) : Reps b N H' ds vs := h.stay x.stay fun _ z => .inl z
theorem RepB.keep (x : Keep b H H') (h : RepB b N H d v) : RepB b N H' d v := by
  cases d with
  | lst ds => obtain ⟨p, vs, e, g, q, r⟩ := h; exact ⟨p, vs, e, g, x _ _ q g, r.keep x⟩
  | sel ax c ns ds => obtain ⟨p, dx, fs, e, g, q, f, r⟩ := h; exact ⟨p, dx, fs, e, g, x _ _ q g, f, r.keep x⟩
  | dct w kd ds => obtain ⟨p, es, e, g, q, f, r1, r2⟩ := h; exact ⟨p, es, e, g, x _ _ q g, f, r1.keep x, r2.keep x⟩
  | _ => exact Rep.keep (d := _) x h

theorem Reps.lookup : ∀ {ns : List Str} {ds : List D} {fs : List (Str × V)} {f : Str} {d : D}, fs.map (·.1) = ns → Reps b N H ds (fs.map (·.2)) → (ns.zip ds).lookup f = some d → ∃ v, fs.lookup f = some v ∧ Rep b N H d v
  | [], _, [], _, _, _, _, e => by simp at e
  | n :: ns, ds, (m, u) :: fs, f, d, hn, r, e => by
    obtain ⟨hn1, hn2⟩ : m = n ∧ fs.map (·.1) = ns := by simpa using hn
    subst hn1
    cases ds with
    | nil => cases (show (List.map (·.2) ((m, u) :: fs)) = [] from r)
    | cons x ds =>
      obtain ⟨v, r', e1, h1, h2⟩ := r
      injection (show u :: List.map (·.2) fs = v :: r' from e1) with e2 e3
      subst e2 e3
      rw [List.zip_cons_cons] at e
      by_cases hf : f = m
      · subst hf
        simp only [List.lookup_cons, beq_self_eq_true] at e ⊢
        injection e with e
        subst e
        exact ⟨u, rfl, h1⟩
      · have hb : (f == m) = false := by simpa using hf
        simp only [List.lookup_cons, hb] at e ⊢
        exact Reps.lookup hn2 h2 e
end TL
set_option Elab.async false
set_option linter.all false
set_option maxRecDepth 100000
set_option maxHeartbeats 2000000
/-! TL2: what stands in a def's body, over trees: expressions. -/
namespace TL
open PySem PySem.Spec PyProof.Rows L2

abbrev Rho := List (Option D)
/-- an exception: its class, its fields -/
abbrev TX (G : Type) := Rho → G → Str → List Str → List D → Prop
abbrev TTE (G : Type) := Rho → G → TX G → (D → G → Prop) → Prop
abbrev TTB (G : Type) := Rho → G → TX G → (Bool → G → Prop) → Prop
abbrev TTA (G : Type) := Rho → G → TX G → (List D → G → Prop) → Prop

/-- a def's run: M: the slots that hold what is its own; Z: slots that stand still (zk: which) -/
structure C where
  b : B
  M : List Nat
  zk : List Nat
  Z : List (Nat × V × D)
  H0 : Hp
  N0 : Addr → Prop
  Fr : Addr → Prop
  pf : List (D × V) := []
  hZ : ∀ z ∈ Z, z.1 ∈ zk := by exact fun _ h => nomatch h

structure Rn (c : C) (N : Addr → Prop) (ρ : Rho) (g : c.b.G) (σ : L2.St) (H : Hp) : Prop where
  gh : c.b.Φ g H
  keep : ∀ a o, c.H0 a = some o → ¬ c.b.Γ a → ¬ c.Fr a → H a = some o
  n0 : ∀ a, c.N0 a → N a
  ng : ∀ a, c.b.Γ a → N a
  nt : ∀ a, N a → H a ≠ none
  len : σ.length = ρ.length
  slot : ∀ (i : Nat) d, ρ[i]? = some (some d) → ∃ v, σ[i]? = some (some v) ∧ RepB c.b N H d v
  own : ∀ i ∈ c.M, ∀ d, ρ[i]? = some (some d) → d.top = true → ∃ p, σ[i]? = some (some (.ref p)) ∧ (c.H0 p = none ∨ c.Fr p) ∧ N p ∧ ∀ (j : Nat) d', j ≠ i → ρ[j]? = some (some d') → d'.top = true → σ[j]? ≠ some (some (.ref p))
  frz : ∀ z ∈ c.Z, σ[z.1]? = some (some z.2.1) ∧ ρ[z.1]? = some (some z.2.2)
  pin : ∀ z ∈ c.pf, Rep c.b N H z.1 z.2

theorem Rn.fresh {c : C} {N : Addr → Prop} {ρ : Rho} {g : c.b.G} {σ : L2.St} {H : Hp} (R : Rn c N ρ g σ H) {p : Addr} (h : H p = none) : ¬ c.b.Γ p ∧ ¬ N p :=
  ⟨fun z => R.nt p (R.ng p z) h, fun z => R.nt p z h⟩
theorem Rn.kept {c : C} {N : Addr → Prop} {ρ : Rho} {g g' : c.b.G} {σ : L2.St} {H H' : Hp} (R : Rn c N ρ g σ H) (k : Keep c.b H H') (hg : c.b.Φ g' H') (nt : ∀ a, N a → H' a ≠ none) : Rn c N ρ g' σ H' :=
  ⟨hg, fun a o e g f => k a o (R.keep a o e g f) g, R.n0, R.ng, nt, R.len, fun i d e => let ⟨v, h1, h2⟩ := R.slot i d e; ⟨v, h1, h2.keep k⟩, R.own, R.frz, fun z hz => (R.pin z hz).keep k⟩
theorem Rn.same {c : C} {N : Addr → Prop} {ρ : Rho} {g : c.b.G} {σ : L2.St} {H H' : Hp} (R : Rn c N ρ g σ H) (s : Same H H') : Rn c N ρ g σ H' :=
  R.kept (.same s) (c.b.stab _ _ _ R.gh fun a o _ e => s a o e) fun a n z => by
    cases q : H a with
    | none => exact R.nt a n q
    | some o => rw [s a o q] at z; cases z

inductive S where
  | b | r | f
/-- b: a borrowed value; r: one that may be kept; f: one that nobody else holds (H: where it began) -/
def RepS (s : S) (b : B) (N : Addr → Prop) (H H' : Hp) (d : D) (v : V) : Prop := match s with
  | .b => RepB b N H' d v
  | .r => Rep b N H' d v
  | .f => Rep b N H' d v ∧ (d.top = true → ∃ p, v = .ref p ∧ H p = none ∧ RepB b (fun a => N a ∨ a = p) H' d v)
theorem RepS.tob {s : S} {b : B} {N : Addr → Prop} {H H' : Hp} {d : D} {v : V} (h : RepS s b N H H' d v) : RepB b N H' d v := by
  cases s with
  | b => exact h
  | r => exact Rep.toB h
  | f => exact Rep.toB h.1
theorem RepS.keep {s : S} {b : B} {N : Addr → Prop} {H H1 H2 : Hp} {d : D} {v : V} (h : RepS s b N H H1 d v) (k : Keep b H1 H2) : RepS s b N H H2 d v := by
  cases s with
  | b => exact RepB.keep k h
  | r => exact Rep.keep k h
  | f => exact ⟨Rep.keep k h.1, fun t => let ⟨p, e, z, r⟩ := h.2 t; ⟨p, e, z, r.keep k⟩⟩
theorem RepS.start {s : S} {b : B} {N : Addr → Prop} {H H1 H2 : Hp} {d : D} {v : V} (h : RepS s b N H1 H2 d v) (k : ∀ p, H1 p = none → H p = none) : RepS s b N H H2 d v := by
  cases s with
  | b => exact h
  | r => exact h
  | f => exact ⟨h.1, fun t => let ⟨p, e, z, r⟩ := h.2 t; ⟨p, e, k p z, r⟩⟩

def liftX (c : C) (ex : TX c.b.G) : WX := fun cls d σ H => ∃ N ρ g cn ns ds dd fs, Rn c N ρ g σ H ∧ cls = .ref (He.ga c.b.K cn) ∧ d = some dd ∧ (H dd = some (.xd fs) ∧ ¬ c.b.Γ dd ∧ ¬ N dd) ∧ fs.map (·.1) = ns ∧ Reps c.b N H ds (fs.map (·.2)) ∧ ex ρ g cn ns ds
structure XOk (X : Cx) (c : C) (ex : TX c.b.G) : Prop where
  takes : Takes X (liftX c ex)
  pass : PassesOwn (model X.prog X.w) X.A X.env X.xe
  hK : X.K = c.b.K
  units : X.A.units + 66 < cLine

def liftE (c : C) (s : S) (t : TTE c.b.G) (ex : TX c.b.G) : TE := fun σ H Q => ∃ N ρ g, Rn c N ρ g σ H ∧ t ρ g ex (fun d g' => ∀ v H', Rn c N ρ g' σ H' → (∀ a, H a ≠ none → H' a ≠ none) → Keep c.b H H' → RepS s c.b N H H' d v → Q v H')
def liftB (c : C) (t : TTB c.b.G) (ex : TX c.b.G) : TT := fun σ H Q => ∃ N ρ g, Rn c N ρ g σ H ∧ t ρ g ex (fun k g' => ∀ H', Rn c N ρ g' σ H' → (∀ a, H a ≠ none → H' a ≠ none) → Keep c.b H H' → Q k H')
inductive RepSs (s : S) (b : B) (N : Addr → Prop) (H H' : Hp) : List D → List V → Prop
  | nil : RepSs s b N H H' [] []
  | cons {d v ds vs} : RepS s b N H H' d v → RepSs s b N H H' ds vs → RepSs s b N H H' (d :: ds) (v :: vs)
theorem RepSs.keep {s : S} {b : B} {N : Addr → Prop} {H H1 H2 : Hp} {ds : List D} {vs : List V} (h : RepSs s b N H H1 ds vs) (k : Keep b H1 H2) : RepSs s b N H H2 ds vs := by
  induction h with
  | nil => exact .nil
  | cons h _ ih => exact .cons (h.keep k) ih
theorem RepSs.start {s : S} {b : B} {N : Addr → Prop} {H H1 H2 : Hp} {ds : List D} {vs : List V} (h : RepSs s b N H1 H2 ds vs) (k : ∀ p, H1 p = none → H p = none) : RepSs s b N H H2 ds vs := by
  induction h with
  | nil => exact .nil
  | cons h _ ih => exact .cons (h.start k) ih
theorem RepSs.reps {b : B} {N : Addr → Prop} {H H1 : Hp} {ds : List D} {vs : List V} (h : RepSs .r b N H H1 ds vs) : Reps b N H1 ds vs := by
  induction h with
  | nil => exact reps_nil
  | cons h _ ih => exact reps_cons h ih
theorem RepSs.length {s : S} {b : B} {N : Addr → Prop} {H H1 : Hp} {ds : List D} {vs : List V} (h : RepSs s b N H H1 ds vs) : ds.length = vs.length := by
  induction h with
  | nil => rfl
  | cons _ _ ih => simp [ih]
def liftA (c : C) (s : S) (t : TTA c.b.G) (ex : TX c.b.G) : TA := fun σ H Q => ∃ N ρ g, Rn c N ρ g σ H ∧ t ρ g ex (fun ds g' => ∀ vs H', Rn c N ρ g' σ H' → (∀ a, H a ≠ none → H' a ≠ none) → Keep c.b H H' → RepSs s c.b N H H' ds vs → Q vs H')

theorem PE.weak {X : Cx} {e : Expr} {t t' : TE} (h : PE X e t) (w : ∀ σ H Q, t' σ H Q → t σ H Q) : PE X e t' := ⟨fun pins s σ H Q I q => h.run pins s σ H Q I (w _ _ _ q)⟩
theorem PT.weak {X : Cx} {e : Expr} {t t' : TT} (h : PT X e t) (w : ∀ σ H Q, t' σ H Q → t σ H Q) : PT X e t' := ⟨fun pins s σ H Q I q => h.run pins s σ H Q I (w _ _ _ q)⟩
theorem PW.weak {X : Cx} {e : Expr} {t t' : TT} (h : PW X e t) (w : ∀ σ H Q, t' σ H Q → t σ H Q) : PW X e t' := ⟨fun wh pins s σ H Q I q => h.run wh pins s σ H Q I (w _ _ _ q)⟩
theorem PA.weak {X : Cx} {e : List Expr} {t t' : TA} (h : PA X e t) (w : ∀ σ H Q, t' σ H Q → t σ H Q) : PA X e t' := ⟨fun ps pins s σ H Q I q => h.run ps pins s σ H Q I (w _ _ _ q)⟩

structure PEt (c : C) (s : S) (X : Cx) (e : Expr) (t : TTE c.b.G) : Prop where
  mono : ∀ ρ g ex Q Q', (∀ d g, Q d g → Q' d g) → t ρ g ex Q → t ρ g ex Q'
  run : ∀ ex, XOk X c ex → PE X e (liftE c s t ex)
structure PBt (c : C) (X : Cx) (e : Expr) (t : TTB c.b.G) : Prop where
  mono : ∀ ρ g ex Q Q', (∀ d g, Q d g → Q' d g) → t ρ g ex Q → t ρ g ex Q'
  run : ∀ ex, XOk X c ex → PT X e (liftB c t ex)
structure PWt (c : C) (X : Cx) (e : Expr) (t : TTB c.b.G) : Prop where
  mono : ∀ ρ g ex Q Q', (∀ d g, Q d g → Q' d g) → t ρ g ex Q → t ρ g ex Q'
  run : ∀ ex, XOk X c ex → PW X e (liftB c t ex)
structure PAt (c : C) (s : S) (X : Cx) (es : List Expr) (t : TTA c.b.G) : Prop where
  mono : ∀ ρ g ex Q Q', (∀ d g, Q d g → Q' d g) → t ρ g ex Q → t ρ g ex Q'
  run : ∀ ex, XOk X c ex → PA X es (liftA c s t ex)

section
variable {c : C} {X : Cx} {s : S} {e a b' : Expr} {t ta tb : TTE c.b.G} {pos : Pos}

theorem back {H H' : Hp} (h : ∀ a : Addr, H a ≠ none → H' a ≠ none) (p : Addr) (q : H' p = none) : H p = none := by
  cases e : H p with
  | none => rfl
  | some o => exact absurd q (h p (by rw [e]; exact fun z => by cases z))
theorem same_there {H H' : Hp} (s : Same H H') (a : Addr) (h : H a ≠ none) : H' a ≠ none := by
  cases e : H a with
  | none => exact absurd e h
  | some o => rw [s a o e]; exact fun z => by cases z

theorem PEt.tob (h : PEt c s X e t) : PEt c .b X e t := ⟨h.mono, fun ex ok => PE.weak (h.run ex ok) fun σ H Q ⟨N, ρ, g, R, q⟩ => ⟨N, ρ, g, R, h.mono _ _ _ _ _ (fun d g' q v H' R' th k r => q v H' R' th k r.tob) q⟩⟩
theorem PEt.tor (h : PEt c .f X e t) : PEt c .r X e t := ⟨h.mono, fun ex ok => PE.weak (h.run ex ok) fun σ H Q ⟨N, ρ, g, R, q⟩ => ⟨N, ρ, g, R, h.mono _ _ _ _ _ (fun d g' q v H' R' th k r => q v H' R' th k r.1) q⟩⟩
@[simp] def tChk {G : Type} (t : TTE G) : TTE G := fun ρ g ex Q => t ρ g ex fun d g' => d.top = false ∧ Q d g'
theorem PEt.chk (h : PEt c s X e t) : PEt c .f X e (tChk t) :=
  ⟨fun ρ g ex Q Q' w q => h.mono _ _ _ _ _ (fun d g' z => ⟨z.1, w _ _ z.2⟩) q,
   fun ex ok => PE.weak (h.run ex ok) fun σ H Q ⟨N, ρ, g, R, q⟩ => ⟨N, ρ, g, R, h.mono _ _ _ _ _ (fun d g' q v H' R' th k r => q.2 v H' R' th k ⟨RepB.of r.tob q.1, fun z => by rw [q.1] at z; cases z⟩) q⟩⟩

/-! ### names and constants -/
@[simp] def tVarT {G : Type} (i : Nat) : TTE G := fun ρ g ex Q => ∃ d, ρ[i]? = some (some d) ∧ Q d g
theorem et_var (i : Nat) {x : Str} (hN : X.N[i]? = some x := by rfl) (hv : Vis X.env.scope x := by first | exact Or.inl rfl | exact Or.inr (Or.inl rfl) | exact Or.inr (Or.inr rfl)) (hd : (x == ("__debug__" : Str)) = false := by decide)
    (hcd : (x == ("__classdict__" : Str)) = false := by decide) : PEt c .b X (.Name x pos) (tVarT i) :=
  ⟨fun ρ g ex Q Q' w q => let ⟨d, e, q⟩ := q; ⟨d, e, w _ _ q⟩,
   fun ex ok => PE.weak (pe_var hN hv hd hcd) fun σ H Q ⟨N, ρ, g, R, d, e, q⟩ => let ⟨v, h1, h2⟩ := R.slot i d e; ⟨v, h1, q v H R (fun _ z => z) .refl h2⟩⟩
@[simp] def tCon {G : Type} (d : D) : TTE G := fun _ g _ Q => Q d g
theorem et_con {v : V} {d : D} (h : PE X e (tC v)) (r : ∀ N H, Rep c.b N H d v) (ht : d.top = false) : PEt c .f X e (tCon d) :=
  ⟨fun ρ g ex Q Q' w q => w _ _ q, fun ex ok => PE.weak h fun σ H Q ⟨N, ρ, g, R, q⟩ => q v H R (fun _ z => z) .refl ⟨r _ _, fun z => by rw [ht] at z; cases z⟩⟩
theorem et_int {i k} : PEt c .f X (.Constant (.int i) k pos) (tCon (.int i)) := et_con pe_int (fun _ _ => rfl) rfl
theorem et_str {i k} : PEt c .f X (.Constant (.str i) k pos) (tCon (.str i)) := et_con pe_str (fun _ _ => rfl) rfl
theorem et_bl {i k} : PEt c .f X (.Constant (.bool i) k pos) (tCon (.bl i)) := et_con pe_bl (fun _ _ => rfl) rfl
theorem et_non {k} : PEt c .f X (.Constant .none k pos) (tCon .non) := et_con pe_non (fun _ _ => rfl) rfl
theorem et_gint {x : Str} {i : Int} {u : Value} (hg : Gl X x) (hm : X.mg x = some u) (r : ∃ k, u = .int i k) (hd : (x == ("__debug__" : Str)) = false := by decide) : PEt c .f X (.Name x pos) (tCon (.int i)) := et_con (v := .int i) (pe_glob (v := .int i) hg hm r hd) (fun _ _ => rfl) rfl
theorem et_gstr {x : Str} {i : Str} {u : Value} (hg : Gl X x) (hm : X.mg x = some u) (r : ∃ k, u = .str i k) (hd : (x == ("__debug__" : Str)) = false := by decide) : PEt c .f X (.Name x pos) (tCon (.str i)) := et_con (v := .str i) (pe_glob (v := .str i) hg hm r hd) (fun _ _ => rfl) rfl

/-! ### operators by values -/
structure OpTR (X : Cx) (c : C) (f : Value → Value → Sem Value) (o : D → D → (D → Prop) → Prop) : Prop where
  mono : ∀ d1 d2 Q Q', (∀ d, Q d → Q' d) → o d1 d2 Q → o d1 d2 Q'
  ok : X.K = c.b.K → X.A.units + 66 < cLine → ∃ r, OpR X f r ∧ ∀ N d1 d2 x y H Qd Qv, (∀ p, H p = none → ¬ c.b.Γ p ∧ ¬ N p) → RepB c.b N H d1 x → RepB c.b N H d2 y → o d1 d2 Qd →
    (∀ d, Qd d → ∀ v H', Same H H' → RepS .f c.b N H H' d v → Qv v H') → r x y H Qv
@[simp] def tOpT {G : Type} (o : D → D → (D → Prop) → Prop) (ta tb : TTE G) : TTE G := fun ρ g ex Q => ta ρ g ex fun x g1 => tb ρ g1 ex fun y g2 => o x y fun d => Q d g2
theorem opT_lift {o : D → D → (D → Prop) → Prop} {f : Value → Value → Sem Value} {ex : TX c.b.G} (ho : OpTR X c f o) {s1 s2 : S} (ha : PEt c s1 X a ta) (hb : PEt c s2 X b' tb) (hK : X.K = c.b.K) (hu : X.A.units + 66 < cLine) :
    ∃ r, OpR X f r ∧ ∀ σ H Q, liftE c .f (tOpT o ta tb) ex σ H Q → tOp r (liftE c s1 ta ex) (liftE c s2 tb ex) σ H Q := by
  obtain ⟨r, h1, h2⟩ := ho.ok hK hu
  refine ⟨r, h1, fun σ H Q ⟨N, ρ, g, R, q⟩ => ?_⟩
  refine ⟨N, ρ, g, R, ha.mono _ _ _ _ _ (fun d1 g1 q x H1 R1 t1 k1 r1 => ?_) q⟩
  refine ⟨N, ρ, g1, R1, hb.mono _ _ _ _ _ (fun d2 g2 q y H2 R2 t2 k2 r2 => ?_) q⟩
  refine h2 N d1 d2 x y H2 _ _ (fun p z => R2.fresh z) (RepS.tob (r1.keep k2)) r2.tob q fun d q v H' sm rf => ?_
  refine q v H' (R2.same sm) (fun a z => same_there sm a (t2 a (t1 a z))) ((k1.trans k2).trans (.same sm)) (rf.start fun p z => back t1 p (back t2 p z))
theorem opT_mono {o : D → D → (D → Prop) → Prop} {f : Value → Value → Sem Value} (ho : OpTR X c f o) {s1 s2 : S} (ha : PEt c s1 X a ta) (hb : PEt c s2 X b' tb) : ∀ ρ g ex Q Q', (∀ d g, Q d g → Q' d g) → tOpT o ta tb ρ g ex Q → tOpT o ta tb ρ g ex Q' :=
  fun ρ g ex Q Q' w q => ha.mono _ _ _ _ _ (fun x g1 q => hb.mono _ _ _ _ _ (fun y g2 q => ho.mono _ _ _ _ (fun d q => w _ _ q) q) q) q
theorem et_op {op : Operator} {o : D → D → (D → Prop) → Prop} {s1 s2 : S} (ho : OpTR X c (binaryOp op) o) (ha : PEt c s1 X a ta) (hb : PEt c s2 X b' tb) : PEt c .f X (.BinOp a op b' pos) (tOpT o ta tb) :=
  ⟨opT_mono ho ha hb, fun ex ok => by
    obtain ⟨r, h1, h2⟩ := opT_lift (ex := ex) ho ha hb ok.hK ok.units
    exact PE.weak (pe_op h1 (ha.run ex ok) (hb.run ex ok)) h2⟩
theorem et_cmp {op : CmpOp} {o : D → D → (D → Prop) → Prop} {s1 s2 : S} (ho : OpTR X c (compareOp op) o) (ha : PEt c s1 X a ta) (hb : PEt c s2 X b' tb) (hm : behindInMarks op b' = false) : PEt c .f X (.Compare a [op] [b'] pos) (tOpT o ta tb) :=
  ⟨opT_mono ho ha hb, fun ex ok => by
    obtain ⟨r, h1, h2⟩ := opT_lift (ex := ex) ho ha hb ok.hK ok.units
    exact PE.weak (pe_cmpR h1 (ha.run ex ok) (hb.run ex ok) hm) h2⟩
/-- a value that is a truth, as a test -/
@[simp] def tTst {G : Type} (t : TTE G) : TTB G := fun ρ g ex Q => t ρ g ex fun d g' => ∃ k, d = .bl k ∧ Q k g'
theorem tst_mono (h : ∀ ρ g ex Q Q', (∀ d g, Q d g → Q' d g) → t ρ g ex Q → t ρ g ex Q') : ∀ ρ g ex Q Q', (∀ d g, Q d g → Q' d g) → tTst t ρ g ex Q → tTst t ρ g ex Q' :=
  fun ρ g ex Q Q' w q => h _ _ _ _ _ (fun d g' ⟨k, e, q⟩ => ⟨k, e, w _ _ q⟩) q
theorem tst_lift {s : S} {ex : TX c.b.G} (h : ∀ ρ g ex Q Q', (∀ d g, Q d g → Q' d g) → t ρ g ex Q → t ρ g ex Q') : ∀ σ H Q, liftB c (tTst t) ex σ H Q → (liftE c s t ex) σ H fun x H' => ∃ k, x = .bl k ∧ Q k H' :=
  fun σ H Q ⟨N, ρ, g, R, q⟩ => ⟨N, ρ, g, R, h _ _ _ _ _ (fun d g' ⟨k, e, q⟩ v H' R' th kp r => by
    subst e
    exact ⟨k, r.tob, q H' R' th kp⟩) q⟩
theorem bt_cmp {op : CmpOp} {o : D → D → (D → Prop) → Prop} {s1 s2 : S} (ho : OpTR X c (compareOp op) o) (ha : PEt c s1 X a ta) (hb : PEt c s2 X b' tb) (hm : behindInMarks op b' = false) : PBt c X (.Compare a [op] [b'] pos) (tTst (tOpT o ta tb)) :=
  ⟨tst_mono (opT_mono ho ha hb), fun ex ok => by
    obtain ⟨r, h1, h2⟩ := opT_lift (ex := ex) ho ha hb ok.hK ok.units
    exact PT.weak (pt_cmpR h1 (ha.run ex ok) (hb.run ex ok) hm) fun σ H Q q => h2 _ _ _ (tst_lift (opT_mono ho ha hb) σ H Q q)⟩
theorem bt_val (h : PEt c s X e t) (he : ∀ whole, isTrue e X.env whole = (do let v ← whole; standAt e.pos; holding [v] (truthy v)) := by intro _; rfl) : PBt c X e (tTst t) :=
  ⟨tst_mono h.mono, fun ex ok => PT.weak (pt_val (h.run ex ok) he) fun σ H Q q => tst_lift h.mono σ H Q q⟩
/-- a < b < c -/
@[simp] def tChainT {G : Type} (o o' : D → D → (D → Prop) → Prop) (ta tb tc : TTE G) : TTE G := fun ρ g ex Q => ta ρ g ex fun x g1 => tb ρ g1 ex fun y g2 => o x y fun z => ∃ k, z = .bl k ∧
  (if k = true then tc ρ g2 ex fun w g3 => o' y w fun d => Q d g3 else Q (.bl false) g2)
theorem chain_mono {o o' : D → D → (D → Prop) → Prop} {f f' : Value → Value → Sem Value} {tc : TTE c.b.G} {d' : Expr} {s1 s2 s3 : S} (ho : OpTR X c f o) (ho' : OpTR X c f' o') (ha : PEt c s1 X a ta) (hb : PEt c s2 X b' tb) (hc : PEt c s3 X d' tc) :
    ∀ ρ g ex Q Q', (∀ d g, Q d g → Q' d g) → tChainT o o' ta tb tc ρ g ex Q → tChainT o o' ta tb tc ρ g ex Q' :=
  fun ρ g ex Q Q' w q => ha.mono _ _ _ _ _ (fun x g1 q => hb.mono _ _ _ _ _ (fun y g2 q => ho.mono _ _ _ _ (fun z ⟨k, e, q⟩ => ⟨k, e, by
    cases k with
    | true => rw [if_pos rfl] at q ⊢; exact hc.mono _ _ _ _ _ (fun w' g3 q => ho'.mono _ _ _ _ (fun d q => w _ _ q) q) q
    | false => rw [if_neg Bool.false_ne_true] at q ⊢; exact w _ _ q⟩) q) q) q
theorem chain_lift {o o' : D → D → (D → Prop) → Prop} {f f' : Value → Value → Sem Value} {tc : TTE c.b.G} {d' : Expr} {s1 s2 s3 : S} {ex : TX c.b.G} (ho : OpTR X c f o) (ho' : OpTR X c f' o') (ha : PEt c s1 X a ta) (hb : PEt c s2 X b' tb) (hc : PEt c s3 X d' tc) (hK : X.K = c.b.K) (hu : X.A.units + 66 < cLine) :
    ∃ r r', OpR X f r ∧ OpR X f' r' ∧ ∀ σ H Q, liftE c .f (tChainT o o' ta tb tc) ex σ H Q → tChain r r' (liftE c s1 ta ex) (liftE c s2 tb ex) (liftE c s3 tc ex) σ H Q := by
  obtain ⟨r, h1, h2⟩ := ho.ok hK hu
  obtain ⟨r', h1', h2'⟩ := ho'.ok hK hu
  refine ⟨r, r', h1, h1', fun σ H Q ⟨N, ρ, g, R, q⟩ => ?_⟩
  refine ⟨N, ρ, g, R, ha.mono _ _ _ _ _ (fun d1 g1 q x H1 R1 t1 k1 r1 => ?_) q⟩
  refine ⟨N, ρ, g1, R1, hb.mono _ _ _ _ _ (fun d2 g2 q y H2 R2 t2 k2 r2 => ?_) q⟩
  refine h2 N d1 d2 x y H2 _ _ (fun p z => R2.fresh z) (RepS.tob (r1.keep k2)) r2.tob q fun d ⟨k, e, q⟩ v H3 sm rf => ?_
  subst e
  refine ⟨k, rf.1, ?_⟩
  have R3 := R2.same sm
  have t3 : ∀ a, H a ≠ none → H3 a ≠ none := fun a z => same_there sm a (t2 a (t1 a z))
  have k3 : Keep c.b H H3 := (k1.trans k2).trans (.same sm)
  cases k with
  | true =>
    rw [if_pos rfl] at q ⊢
    refine ⟨N, ρ, g2, R3, hc.mono _ _ _ _ _ (fun d3 g3 q z H4 R4 t4 k4 r4 => ?_) q⟩
    refine h2' N d2 d3 y z H4 _ _ (fun p z => R4.fresh z) (RepS.tob ((r2.keep (.same sm)).keep k4)) r4.tob q fun d q v H' sm' rf' => ?_
    exact q v H' (R4.same sm') (fun a z => same_there sm' a (t4 a (t3 a z))) ((k3.trans k4).trans (.same sm')) (rf'.start fun p z => back t3 p (back t4 p z))
  | false =>
    rw [if_neg Bool.false_ne_true] at q ⊢
    exact q _ H3 R3 t3 k3 ⟨rfl, fun z => by cases z⟩
theorem et_chain {op op' : CmpOp} {o o' : D → D → (D → Prop) → Prop} {tc : TTE c.b.G} {d' : Expr} {s1 s2 s3 : S} (ho : OpTR X c (compareOp op) o) (ho' : OpTR X c (compareOp op') o') (ha : PEt c s1 X a ta) (hb : PEt c s2 X b' tb) (hc : PEt c s3 X d' tc) (hm : lastMarks [op, op'] [b', d'] = false := by with_unfolding_all rfl) :
    PEt c .f X (.Compare a [op, op'] [b', d'] pos) (tChainT o o' ta tb tc) :=
  ⟨chain_mono ho ho' ha hb hc, fun ex ok => by
    obtain ⟨r, r', h1, h1', h2⟩ := chain_lift (ex := ex) ho ho' ha hb hc ok.hK ok.units
    exact PE.weak (pe_chain h1 h1' (ha.run ex ok) (hb.run ex ok) (hc.run ex ok) hm) h2⟩
theorem bt_chain {op op' : CmpOp} {o o' : D → D → (D → Prop) → Prop} {tc : TTE c.b.G} {d' : Expr} {s1 s2 s3 : S} (ho : OpTR X c (compareOp op) o) (ho' : OpTR X c (compareOp op') o') (ha : PEt c s1 X a ta) (hb : PEt c s2 X b' tb) (hc : PEt c s3 X d' tc) (hm : lastMarks [op, op'] [b', d'] = false := by with_unfolding_all rfl) :
    PBt c X (.Compare a [op, op'] [b', d'] pos) (tTst (tChainT o o' ta tb tc)) :=
  ⟨tst_mono (chain_mono ho ho' ha hb hc), fun ex ok => by
    obtain ⟨r, r', h1, h1', h2⟩ := chain_lift (ex := ex) ho ho' ha hb hc ok.hK ok.units
    exact PT.weak (pt_chain h1 h1' (ha.run ex ok) (hb.run ex ok) (hc.run ex ok) hm) fun σ H Q q => h2 _ _ _ (tst_lift (chain_mono ho ho' ha hb hc) σ H Q q)⟩

/-! ### and, or, not -/
variable {rest : List Expr} {tA tB : TTB c.b.G}
@[simp] def tAndT {G : Type} (t u : TTB G) : TTB G := fun ρ g ex Q => t ρ g ex fun k g1 => if k = true then u ρ g1 ex Q else Q false g1
@[simp] def tOrT {G : Type} (t u : TTB G) : TTB G := fun ρ g ex Q => t ρ g ex fun k g1 => if k = true then Q true g1 else u ρ g1 ex Q
@[simp] def tNotT {G : Type} (t : TTB G) : TTB G := fun ρ g ex Q => t ρ g ex fun k g1 => Q (!k) g1
theorem PBt.of (h : PWt c X e tA) : PBt c X e tA := ⟨h.mono, fun ex ok => (h.run ex ok).pt⟩
theorem wt_and1 (h : PBt c X a tA) : PWt c X (.BoolOp .And [a] pos) tA := ⟨h.mono, fun ex ok => pw_and1 (h.run ex ok)⟩
theorem wt_or1 (h : PBt c X a tA) : PWt c X (.BoolOp .Or [a] pos) tA := ⟨h.mono, fun ex ok => pw_or1 (h.run ex ok)⟩
theorem wt_and (ha : PBt c X a tA) (hb : PWt c X (.BoolOp .And (b' :: rest) pos) tB) : PWt c X (.BoolOp .And (a :: b' :: rest) pos) (tAndT tA tB) :=
  ⟨fun ρ g ex Q Q' w q => ha.mono _ _ _ _ _ (fun k g1 q => by
    cases k with
    | true => rw [if_pos rfl] at q ⊢; exact hb.mono _ _ _ _ _ w q
    | false => rw [if_neg Bool.false_ne_true] at q ⊢; exact w _ _ q) q,
   fun ex ok => PW.weak (pw_and (ha.run ex ok) (hb.run ex ok)) fun σ H Q ⟨N, ρ, g, R, q⟩ => ⟨N, ρ, g, R, ha.mono _ _ _ _ _ (fun k g1 q H1 R1 t1 k1 => by
    cases k with
    | true => rw [if_pos rfl] at q ⊢; exact ⟨N, ρ, g1, R1, hb.mono _ _ _ _ _ (fun k2 g2 q H2 R2 t2 k2 => q H2 R2 (fun a z => t2 a (t1 a z)) (k1.trans k2)) q⟩
    | false => rw [if_neg Bool.false_ne_true] at q ⊢; exact q H1 R1 t1 k1) q⟩⟩
theorem wt_or (ha : PBt c X a tA) (hb : PWt c X (.BoolOp .Or (b' :: rest) pos) tB) : PWt c X (.BoolOp .Or (a :: b' :: rest) pos) (tOrT tA tB) :=
  ⟨fun ρ g ex Q Q' w q => ha.mono _ _ _ _ _ (fun k g1 q => by
    cases k with
    | false => rw [if_neg Bool.false_ne_true] at q ⊢; exact hb.mono _ _ _ _ _ w q
    | true => rw [if_pos rfl] at q ⊢; exact w _ _ q) q,
   fun ex ok => PW.weak (pw_or (ha.run ex ok) (hb.run ex ok)) fun σ H Q ⟨N, ρ, g, R, q⟩ => ⟨N, ρ, g, R, ha.mono _ _ _ _ _ (fun k g1 q H1 R1 t1 k1 => by
    cases k with
    | false => rw [if_neg Bool.false_ne_true] at q ⊢; exact ⟨N, ρ, g1, R1, hb.mono _ _ _ _ _ (fun k2 g2 q H2 R2 t2 k2 => q H2 R2 (fun a z => t2 a (t1 a z)) (k1.trans k2)) q⟩
    | true => rw [if_pos rfl] at q ⊢; exact q H1 R1 t1 k1) q⟩⟩
theorem bt_not (h : PBt c X a tA) : PBt c X (.UnaryOp .Not a pos) (tNotT tA) :=
  ⟨fun ρ g ex Q Q' w q => h.mono _ _ _ _ _ (fun k g1 q => w _ _ q) q,
   fun ex ok => PT.weak (pt_not (h.run ex ok)) fun σ H Q ⟨N, ρ, g, R, q⟩ => ⟨N, ρ, g, R, h.mono _ _ _ _ _ (fun k g1 q H1 R1 t1 k1 => q H1 R1 t1 k1) q⟩⟩
/-- as values -/
@[simp] def tAndE {G : Type} (ta tb : TTE G) : TTE G := fun ρ g ex Q => ta ρ g ex fun x g1 => ∃ k, x = .bl k ∧ if k = true then tb ρ g1 ex Q else Q (.bl false) g1
@[simp] def tOrE {G : Type} (ta tb : TTE G) : TTE G := fun ρ g ex Q => ta ρ g ex fun x g1 => ∃ k, x = .bl k ∧ if k = true then Q (.bl true) g1 else tb ρ g1 ex Q
@[simp] def tNotE {G : Type} (t : TTE G) : TTE G := fun ρ g ex Q => t ρ g ex fun x g1 => ∃ k, x = .bl k ∧ Q (.bl (!k)) g1
theorem et_one {op} (h : PEt c s X a t) : PEt c s X (.BoolOp op [a] pos) t := ⟨h.mono, fun ex ok => pe_one (h.run ex ok)⟩
theorem et_and {s1 : S} (ha : PEt c s1 X a ta) (hb : PEt c .f X (.BoolOp .And (b' :: rest) pos) tb) : PEt c .f X (.BoolOp .And (a :: b' :: rest) pos) (tAndE ta tb) :=
  ⟨fun ρ g ex Q Q' w q => ha.mono _ _ _ _ _ (fun x g1 ⟨k, e, q⟩ => ⟨k, e, by
    cases k with
    | true => rw [if_pos rfl] at q ⊢; exact hb.mono _ _ _ _ _ w q
    | false => rw [if_neg Bool.false_ne_true] at q ⊢; exact w _ _ q⟩) q,
   fun ex ok => PE.weak (pe_and (ha.run ex ok) (hb.run ex ok)) fun σ H Q ⟨N, ρ, g, R, q⟩ => ⟨N, ρ, g, R, ha.mono _ _ _ _ _ (fun x g1 ⟨k, e, q⟩ v H1 R1 t1 k1 r1 => by
    subst e
    refine ⟨k, r1.tob, ?_⟩
    cases k with
    | true => rw [if_pos rfl] at q ⊢; exact ⟨N, ρ, g1, R1, hb.mono _ _ _ _ _ (fun d g2 q v H2 R2 t2 k2 r2 => q v H2 R2 (fun a z => t2 a (t1 a z)) (k1.trans k2) (r2.start fun p z => back t1 p z)) q⟩
    | false => rw [if_neg Bool.false_ne_true] at q ⊢; exact q _ H1 R1 t1 k1 ⟨rfl, fun z => by cases z⟩) q⟩⟩
theorem et_or {s1 : S} (ha : PEt c s1 X a ta) (hb : PEt c .f X (.BoolOp .Or (b' :: rest) pos) tb) : PEt c .f X (.BoolOp .Or (a :: b' :: rest) pos) (tOrE ta tb) :=
  ⟨fun ρ g ex Q Q' w q => ha.mono _ _ _ _ _ (fun x g1 ⟨k, e, q⟩ => ⟨k, e, by
    cases k with
    | false => rw [if_neg Bool.false_ne_true] at q ⊢; exact hb.mono _ _ _ _ _ w q
    | true => rw [if_pos rfl] at q ⊢; exact w _ _ q⟩) q,
   fun ex ok => PE.weak (pe_or (ha.run ex ok) (hb.run ex ok)) fun σ H Q ⟨N, ρ, g, R, q⟩ => ⟨N, ρ, g, R, ha.mono _ _ _ _ _ (fun x g1 ⟨k, e, q⟩ v H1 R1 t1 k1 r1 => by
    subst e
    refine ⟨k, r1.tob, ?_⟩
    cases k with
    | false => rw [if_neg Bool.false_ne_true] at q ⊢; exact ⟨N, ρ, g1, R1, hb.mono _ _ _ _ _ (fun d g2 q v H2 R2 t2 k2 r2 => q v H2 R2 (fun a z => t2 a (t1 a z)) (k1.trans k2) (r2.start fun p z => back t1 p z)) q⟩
    | true => rw [if_pos rfl] at q ⊢; exact q _ H1 R1 t1 k1 ⟨rfl, fun z => by cases z⟩) q⟩⟩
theorem et_not {s1 : S} (h : PEt c s1 X a t) : PEt c .f X (.UnaryOp .Not a pos) (tNotE t) :=
  ⟨fun ρ g ex Q Q' w q => h.mono _ _ _ _ _ (fun x g1 ⟨k, e, q⟩ => ⟨k, e, w _ _ q⟩) q,
   fun ex ok => PE.weak (pe_not (h.run ex ok)) fun σ H Q ⟨N, ρ, g, R, q⟩ => ⟨N, ρ, g, R, h.mono _ _ _ _ _ (fun x g1 ⟨k, e, q⟩ v H1 R1 t1 k1 r1 => by
    subst e
    exact ⟨k, r1.tob, q _ H1 R1 t1 k1 ⟨rfl, fun z => by cases z⟩⟩) q⟩⟩
@[simp] def tIfE {G : Type} (t : TTB G) (ta tb : TTE G) : TTE G := fun ρ g ex Q => t ρ g ex fun k g1 => if k = true then ta ρ g1 ex Q else tb ρ g1 ex Q
theorem et_ifExp {c' : Expr} (hc : PBt c X c' tA) (ha : PEt c s X a ta) (hb : PEt c s X b' tb) : PEt c s X (.IfExp c' a b' pos) (tIfE tA ta tb) :=
  ⟨fun ρ g ex Q Q' w q => hc.mono _ _ _ _ _ (fun k g1 q => by
    cases k with
    | true => rw [if_pos rfl] at q ⊢; exact ha.mono _ _ _ _ _ w q
    | false => rw [if_neg Bool.false_ne_true] at q ⊢; exact hb.mono _ _ _ _ _ w q) q,
   fun ex ok => PE.weak (pe_ifExp (hc.run ex ok) (ha.run ex ok) (hb.run ex ok)) fun σ H Q ⟨N, ρ, g, R, q⟩ => ⟨N, ρ, g, R, hc.mono _ _ _ _ _ (fun k g1 q H1 R1 t1 k1 => by
    cases k with
    | true => rw [if_pos rfl] at q ⊢; exact ⟨N, ρ, g1, R1, ha.mono _ _ _ _ _ (fun d g2 q v H2 R2 t2 k2 r2 => q v H2 R2 (fun a z => t2 a (t1 a z)) (k1.trans k2) (r2.start fun p z => back t1 p z)) q⟩
    | false => rw [if_neg Bool.false_ne_true] at q ⊢; exact ⟨N, ρ, g1, R1, hb.mono _ _ _ _ _ (fun d g2 q v H2 R2 t2 k2 r2 => q v H2 R2 (fun a z => t2 a (t1 a z)) (k1.trans k2) (r2.start fun p z => back t1 p z)) q⟩) q⟩⟩

/-! ### argument lists, displays -/
variable {es : List Expr} {tr : TTA c.b.G}
@[simp] def tNilT {G : Type} : TTA G := fun _ g _ Q => Q [] g
@[simp] def tConsT {G : Type} (ta : TTE G) (tr : TTA G) : TTA G := fun ρ g ex Q => ta ρ g ex fun d g1 => tr ρ g1 ex fun ds g2 => Q (d :: ds) g2
theorem at_nil : PAt c s X [] tNilT := ⟨fun ρ g ex Q Q' w q => w _ _ q, fun ex ok => PA.weak pa_nil fun σ H Q ⟨N, ρ, g, R, q⟩ => q [] H R (fun _ z => z) .refl .nil⟩
theorem at_cons (ha : PEt c s X e ta) (hr : PAt c s X es tr) (hs : starEach (e :: es) X.env = (false, eval e X.env) :: starEach es X.env := by rfl) : PAt c s X (e :: es) (tConsT ta tr) :=
  ⟨fun ρ g ex Q Q' w q => ha.mono _ _ _ _ _ (fun x g1 q => hr.mono _ _ _ _ _ (fun y g2 q => w _ _ q) q) q,
   fun ex ok => PA.weak (pa_cons (ha.run ex ok) (hr.run ex ok) hs) fun σ H Q ⟨N, ρ, g, R, q⟩ => ⟨N, ρ, g, R, ha.mono _ _ _ _ _ (fun x g1 q v H1 R1 t1 k1 r1 =>
     ⟨N, ρ, g1, R1, hr.mono _ _ _ _ _ (fun ds g2 q vs H2 R2 t2 k2 r2 => q (v :: vs) H2 R2 (fun a z => t2 a (t1 a z)) (k1.trans k2) (.cons (r1.keep k2) (r2.start fun p z => back t1 p z))) q⟩) q⟩⟩
theorem at_of {s' : S} (h : PAt c s X es tr) (w : ∀ N H H' ds vs, RepSs s c.b N H H' ds vs → RepSs s' c.b N H H' ds vs) : PAt c s' X es tr :=
  ⟨h.mono, fun ex ok => PA.weak (h.run ex ok) fun σ H Q ⟨N, ρ, g, R, q⟩ => ⟨N, ρ, g, R, h.mono _ _ _ _ _ (fun ds g' q vs H' R' th k r => q vs H' R' th k (w _ _ _ _ _ r)) q⟩⟩
/-- a new object at a free place -/
theorem laid {H H1 : Hp} {c : C} {N : Addr → Prop} {ρ : Rho} {g : c.b.G} {σ : L2.St} {p : Addr} {o : HO} (R : Rn c N ρ g σ H) (hp : H p = none) : Rn c N ρ g σ (upd H p o) ∧ Same H (upd H p o) := by
  have sm : Same H (upd H p o) := fun a u e => by rw [upd_ne (ne_of_none e hp)]; exact e
  exact ⟨R.same sm, sm⟩
@[simp] def tTupT {G : Type} (t : TTA G) : TTE G := fun ρ g ex Q => t ρ g ex fun ds g' => ds.length ≤ sizeLine ∧ Q (.tup ds) g'
@[simp] def tLstT {G : Type} (t : TTA G) : TTE G := fun ρ g ex Q => t ρ g ex fun ds g' => ds.length ≤ sizeLine ∧ Q (.lst ds) g'
theorem et_tup {k : Nat} (h : PAt c .r X es tr) : PEt c .f X (.Tuple es k pos) (tTupT tr) :=
  ⟨fun ρ g ex Q Q' w q => h.mono _ _ _ _ _ (fun ds g' q => ⟨q.1, w _ _ q.2⟩) q,
   fun ex ok => PE.weak (pe_tup (h.run ex ok)) fun σ H Q ⟨N, ρ, g, R, q⟩ => ⟨N, ρ, g, R, h.mono _ _ _ _ _ (fun ds g' q vs H1 R1 t1 k1 r1 => ⟨by rw [← r1.length]; exact q.1, fun p hp => by
     obtain ⟨R2, sm⟩ := laid (H1 := H1) (o := .tup vs) R1 hp
     exact q.2 _ _ R2 (fun a z => same_there sm a (t1 a z)) (k1.trans (.same sm)) ⟨⟨p, vs, rfl, (R1.fresh hp).1, SqT.of upd_same, (r1.keep (.same sm)).reps⟩, fun z => by cases z⟩⟩) q⟩⟩
theorem et_lst (h : PAt c .r X es tr) : PEt c .f X (.List es pos) (tLstT tr) :=
  ⟨fun ρ g ex Q Q' w q => h.mono _ _ _ _ _ (fun ds g' q => ⟨q.1, w _ _ q.2⟩) q,
   fun ex ok => PE.weak (pe_lst (h.run ex ok)) fun σ H Q ⟨N, ρ, g, R, q⟩ => ⟨N, ρ, g, R, h.mono _ _ _ _ _ (fun ds g' q vs H1 R1 t1 k1 r1 => ⟨by rw [← r1.length]; exact q.1, fun p hp => by
     obtain ⟨R2, sm⟩ := laid (H1 := H1) (o := .lst vs) R1 hp
     exact q.2 _ _ R2 (fun a z => same_there sm a (t1 a z)) (k1.trans (.same sm)) ⟨⟨p, vs, rfl, (R1.fresh hp).1, (R1.fresh hp).2, upd_same, (r1.keep (.same sm)).reps⟩, fun _ => ⟨p, rfl, back t1 p hp, p, vs, rfl, (R1.fresh hp).1, upd_same, r1.reps.stay (Keep.same sm).stay fun a z => z.imp id fun z => by rw [z]; exact hp⟩⟩⟩) q⟩⟩
end
end TL
set_option Elab.async false
set_option linter.all false
set_option maxRecDepth 100000
set_option maxHeartbeats 2000000
/-! TL3: operators over trees. -/
namespace TL
open PySem PySem.Spec PyProof.Rows L2

def D.flat : D → Bool
  | .non => true
  | .bl _ => true
  | .int _ => true
  | .str _ => true
  | _ => false
def D.fv : D → V
  | .bl b => .bl b
  | .int i => .int i
  | .str x => .str x
  | _ => .non
mutual
def D.py : D → PyData
  | .non => .none
  | .bl b => .bool b
  | .int i => .int i
  | .str x => .str x
  | .tup ds => .tuple (pys ds)
  | .lst ds => .list (pys ds)
  | _ => .none
def pys : List D → List PyData
  | [] => []
  | d :: ds => d.py :: pys ds
end
mutual
/-- plain data -/
def D.pl : D → Bool
  | .non => true
  | .bl _ => true
  | .int _ => true
  | .str _ => true
  | .tup ds => pls ds
  | .lst ds => pls ds
  | _ => false
def pls : List D → Bool
  | [] => true
  | d :: ds => d.pl && pls ds
end
section
variable {b : B} {N : Addr → Prop} {H : Hp}
mutual
theorem rep_dp : ∀ {d : D} {v : V}, Rep b N H d v → d.pl = true → Dp b.K H v d.py
  | .non, v, h, _ => by cases (show v = .non from h); exact .non
  | .bl _, v, h, _ => by cases (show v = .bl _ from h); exact .bl _
  | .int _, v, h, _ => by cases (show v = .int _ from h); exact .int _
  | .str _, v, h, _ => by cases (show v = .str _ from h); exact .str _
  | .tup ds, v, h, p => by
    obtain ⟨a, vs, e, g, q, r⟩ := h
    subst e
    exact .tup q (reps_dp r p)
  | .lst ds, v, h, p => by
    obtain ⟨a, vs, e, g, n, q, r⟩ := h
    subst e
    exact .lst (SqL.of q) (reps_dp r p)
  | .obj _ _ _, _, _, p => by cases p
  | .sel _ _ _ _, _, _, p => by cases p
  | .dct _ _ _, _, _, p => by cases p
  | .hnd _, _, _, p => by cases p
theorem reps_dp : ∀ {ds : List D} {vs : List V}, Reps b N H ds vs → pls ds = true → DpAll b.K H vs (pys ds)
  | [], vs, h, _ => by cases (show vs = [] from h); exact .nil
  | d :: ds, vs, h, p => by
    obtain ⟨v, r, e, h1, h2⟩ := h
    subst e
    obtain ⟨p1, p2⟩ : d.pl = true ∧ pls ds = true := Bool.and_eq_true_iff.mp p
    exact .cons (rep_dp h1 p1) (reps_dp h2 p2)
end
theorem repB_dp {d : D} {v : V} (h : RepB b N H d v) (p : d.pl = true) : Dp b.K H v d.py := by
  cases d with
  | lst ds =>
    obtain ⟨a, vs, e, g, q, r⟩ := h
    subst e
    exact .lst (SqL.of q) (reps_dp r p)
  | sel _ _ _ _ => cases p
  | dct _ _ _ => cases p
  | _ => exact rep_dp (N := N) (d := _) h p
theorem rep_flat {d : D} {v : V} (h : RepB b N H d v) (p : d.flat = true) : v = d.fv ∧ flatV v = true := by
  cases d with
  | non => cases (show v = .non from h); exact ⟨rfl, rfl⟩
  | bl _ => cases (show v = .bl _ from h); exact ⟨rfl, rfl⟩
  | int _ => cases (show v = .int _ from h); exact ⟨rfl, rfl⟩
  | str _ => cases (show v = .str _ from h); exact ⟨rfl, rfl⟩
  | _ => cases p
theorem reps_flat : ∀ {ds : List D} {vs : List V}, Reps b N H ds vs → ds.all D.flat = true → vs = ds.map D.fv ∧ vs.all flatV = true
  | [], vs, h, _ => by cases (show vs = [] from h); exact ⟨rfl, rfl⟩
  | d :: ds, vs, h, p => by
    obtain ⟨v, r, e, h1, h2⟩ := h
    subst e
    obtain ⟨p1, p2⟩ : d.flat = true ∧ ds.all D.flat = true := by simpa using p
    obtain ⟨e1, f1⟩ := rep_flat (Rep.toB h1) p1
    obtain ⟨e2, f2⟩ := reps_flat h2 p2
    exact ⟨by rw [List.map_cons, ← e1, ← e2], by rw [List.all_cons, f1, f2]; rfl⟩
end

/-! ### + - * // % & >> ** -/
@[simp] def oAdd : D → D → (D → Prop) → Prop
  | .int i, .int j, Q => Q (.int (i + j))
  | .str x, .str y, Q => x.length + y.length ≤ sizeLine ∧ Q (.str (x ++ y))
  | .tup x, .tup y, Q => x.length + y.length ≤ sizeLine ∧ Q (.tup (x ++ y))
  | .lst x, .lst y, Q => x.length + y.length ≤ sizeLine ∧ Q (.lst (x ++ y))
  | _, _, _ => False
@[simp] def oSub : D → D → (D → Prop) → Prop
  | .int i, .int j, Q => Q (.int (i - j))
  | _, _, _ => False
@[simp] def oMul : D → D → (D → Prop) → Prop
  | .int i, .int j, Q => (CMul i j ∨ CMulW i j) ∧ Q (.int (i * j))
  | .lst x, .int k, Q => (-(2 ^ 63) ≤ k ∧ k < 2 ^ 63 ∧ x.length * k.toNat ≤ sizeLine) ∧ Q (.lst (List.replicate k.toNat x).flatten)
  | _, _, _ => False
@[simp] def oDiv : D → D → (D → Prop) → Prop
  | .int i, .int j, Q => CDivW i j ∧ Q (.int (i / j))
  | _, _, _ => False
@[simp] def oMod : D → D → (D → Prop) → Prop
  | .int i, .int j, Q => 0 < j ∧ Q (.int (i % j))
  | _, _, _ => False
@[simp] def oAnd : D → D → (D → Prop) → Prop
  | .int i, .int j, Q => Q (.int (Builtin.bitAnd i j))
  | _, _, _ => False
@[simp] def oShr : D → D → (D → Prop) → Prop
  | .int i, .int j, Q => 0 ≤ j ∧ Q (.int (i / 2 ^ j.toNat))
  | _, _, _ => False
@[simp] def oPow : D → D → (D → Prop) → Prop
  | .int i, .int j, Q => (0 ≤ j ∧ (Builtin.Int.intBits i : Int) * j ≤ 2 ^ 27) ∧ Q (.int (i ^ j.toNat))
  | _, _, _ => False

section
variable {X : Cx} {c : C}
/-- two ints give a plain value -/
theorem opT_int {f : Value → Value → Sem Value} {Cn : Int → Int → Prop} {g : Int → Int → V} {gd : Int → Int → D} {o : D → D → (D → Prop) → Prop} (h : OpR X f (rI Cn g))
    (hg : ∀ i j N H, Rep c.b N H (gd i j) (g i j)) (ht : ∀ i j, (gd i j).top = false) (ho : ∀ d e Q, o d e Q → ∃ i j, d = .int i ∧ e = .int j ∧ Cn i j ∧ Q (gd i j)) (hm : ∀ d1 d2 Q Q', (∀ d, Q d → Q' d) → o d1 d2 Q → o d1 d2 Q') : OpTR X c f o :=
  ⟨hm, fun _ _ => ⟨_, h, fun N d1 d2 x y H Qd Qv fr r1 r2 q k => by
    obtain ⟨i, j, e1, e2, cn, q'⟩ := ho _ _ _ q
    subst e1 e2
    exact ⟨i, j, r1, r2, cn, k _ q' _ _ (fun _ _ e => e) ⟨hg _ _ _ _, fun z => by rw [ht] at z; cases z⟩⟩⟩⟩
theorem rI0_rI {f : Value → Value → Sem Value} {g : Int → Int → V} (h : OpR X f (rI0 g)) : OpR X f (rI (fun _ _ => True) g) := fun pins s σ H x y v u Q I rx ry ⟨i, j, e1, e2, _, q⟩ => h pins s σ H x y v u Q I rx ry ⟨i, j, e1, e2, q⟩
theorem o2 {o : D → D → (D → Prop) → Prop} {d1 d2 : D} {Q : D → Prop} (h : o d1 d2 Q) : o d1 d2 Q := h

theorem ot_sub : OpTR X c (binaryOp .Sub) oSub := opT_int (gd := fun i j => .int (i - j)) (rI0_rI op_sub) (fun _ _ _ _ => rfl) (fun _ _ => rfl)
  (fun d e Q q => by cases d <;> cases e <;> first | exact ⟨_, _, rfl, rfl, trivial, q⟩ | exact q.elim) fun d1 d2 Q Q' w q => by cases d1 <;> cases d2 <;> first | exact w _ q | exact q
theorem ot_div : OpTR X c (binaryOp .FloorDiv) oDiv := opT_int (gd := fun i j => .int (i / j)) op_fdivW (fun _ _ _ _ => rfl) (fun _ _ => rfl)
  (fun d e Q q => by cases d <;> cases e <;> first | exact ⟨_, _, rfl, rfl, q.1, q.2⟩ | exact q.elim) fun d1 d2 Q Q' w q => by cases d1 <;> cases d2 <;> first | exact ⟨q.1, w _ q.2⟩ | exact q
theorem ot_mod : OpTR X c (binaryOp .Mod) oMod := opT_int (gd := fun i j => .int (i % j)) op_mod (fun _ _ _ _ => rfl) (fun _ _ => rfl)
  (fun d e Q q => by cases d <;> cases e <;> first | exact ⟨_, _, rfl, rfl, q.1, q.2⟩ | exact q.elim) fun d1 d2 Q Q' w q => by cases d1 <;> cases d2 <;> first | exact ⟨q.1, w _ q.2⟩ | exact q
theorem ot_and : OpTR X c (binaryOp .BitAnd) oAnd := opT_int (gd := fun i j => .int (Builtin.bitAnd i j)) (rI0_rI op_and) (fun _ _ _ _ => rfl) (fun _ _ => rfl)
  (fun d e Q q => by cases d <;> cases e <;> first | exact ⟨_, _, rfl, rfl, trivial, q⟩ | exact q.elim) fun d1 d2 Q Q' w q => by cases d1 <;> cases d2 <;> first | exact w _ q | exact q
theorem ot_shr : OpTR X c (binaryOp .RShift) oShr := opT_int (gd := fun i j => .int (i / 2 ^ j.toNat)) op_shr (fun _ _ _ _ => rfl) (fun _ _ => rfl)
  (fun d e Q q => by cases d <;> cases e <;> first | exact ⟨_, _, rfl, rfl, q.1, q.2⟩ | exact q.elim) fun d1 d2 Q Q' w q => by cases d1 <;> cases d2 <;> first | exact ⟨q.1, w _ q.2⟩ | exact q
theorem ot_pow : OpTR X c (binaryOp .Pow) oPow := opT_int (gd := fun i j => .int (i ^ j.toNat)) (Cn := fun i j => 0 ≤ j ∧ (Builtin.Int.intBits i : Int) * j ≤ 2 ^ 27) (opI fun _ _ _ _ _ _ _ hc q => pow_int hc.1 hc.2 q) (fun _ _ _ _ => rfl) (fun _ _ => rfl)
  (fun d e Q q => by cases d <;> cases e <;> first | exact ⟨_, _, rfl, rfl, q.1, q.2⟩ | exact q.elim) fun d1 d2 Q Q' w q => by cases d1 <;> cases d2 <;> first | exact ⟨q.1, w _ q.2⟩ | exact q
@[simp] def oLt : D → D → (D → Prop) → Prop
  | .int i, .int j, Q => Q (.bl (decide (i < j)))
  | .str i, .str j, Q => Q (.bl (decide (i.cps.toList < j.cps.toList)))
  | _, _, _ => False
@[simp] def oLe : D → D → (D → Prop) → Prop
  | .int i, .int j, Q => Q (.bl (decide (i ≤ j)))
  | .str i, .str j, Q => Q (.bl (!decide (j.cps.toList < i.cps.toList)))
  | _, _, _ => False
@[simp] def oGt : D → D → (D → Prop) → Prop
  | .int i, .int j, Q => Q (.bl (decide (j < i)))
  | .str i, .str j, Q => Q (.bl (decide (j.cps.toList < i.cps.toList)))
  | _, _, _ => False
@[simp] def oGe : D → D → (D → Prop) → Prop
  | .int i, .int j, Q => Q (.bl (decide (j ≤ i)))
  | .str i, .str j, Q => Q (.bl (!decide (i.cps.toList < j.cps.toList)))
  | _, _, _ => False
theorem opT_ord {f : Value → Value → Sem Value} {g : Int → Int → Bool} {gs : Str → Str → Bool} {o : D → D → (D → Prop) → Prop} (h : OpR X f (rI0 fun i j => .bl (g i j))) (h2 : OpR X f (fun x y H Q => ∃ i j, x = .str i ∧ y = .str j ∧ Q (.bl (gs i j)) H))
    (ho : ∀ d e Q, o d e Q → (∃ i j, d = .int i ∧ e = .int j ∧ Q (.bl (g i j))) ∨ ∃ i j, d = .str i ∧ e = .str j ∧ Q (.bl (gs i j))) (hm : ∀ d1 d2 Q Q', (∀ d, Q d → Q' d) → o d1 d2 Q → o d1 d2 Q') : OpTR X c f o :=
  ⟨hm, fun _ _ => ⟨_, h.or h2, fun N d1 d2 x y H Qd Qv fr r1 r2 q k => by
    rcases ho _ _ _ q with ⟨i, j, e1, e2, q'⟩ | ⟨i, j, e1, e2, q'⟩
    · subst e1 e2
      exact .inl ⟨i, j, r1, r2, k _ q' _ _ (fun _ _ e => e) ⟨rfl, fun z => by cases z⟩⟩
    · subst e1 e2
      exact .inr ⟨i, j, r1, r2, k _ q' _ _ (fun _ _ e => e) ⟨rfl, fun z => by cases z⟩⟩⟩⟩
theorem ot_lt : OpTR X c (compareOp .Lt) oLt := opT_ord op_lt op_lt_str (fun d e Q q => by cases d <;> cases e <;> first | exact .inl ⟨_, _, rfl, rfl, q⟩ | exact .inr ⟨_, _, rfl, rfl, q⟩ | exact q.elim) fun d1 d2 Q Q' w q => by cases d1 <;> cases d2 <;> first | exact w _ q | exact q
theorem ot_le : OpTR X c (compareOp .LtE) oLe := opT_ord op_le op_le_str (fun d e Q q => by cases d <;> cases e <;> first | exact .inl ⟨_, _, rfl, rfl, q⟩ | exact .inr ⟨_, _, rfl, rfl, q⟩ | exact q.elim) fun d1 d2 Q Q' w q => by cases d1 <;> cases d2 <;> first | exact w _ q | exact q
theorem ot_gt : OpTR X c (compareOp .Gt) oGt := opT_ord op_gt op_gt_str (fun d e Q q => by cases d <;> cases e <;> first | exact .inl ⟨_, _, rfl, rfl, q⟩ | exact .inr ⟨_, _, rfl, rfl, q⟩ | exact q.elim) fun d1 d2 Q Q' w q => by cases d1 <;> cases d2 <;> first | exact w _ q | exact q
theorem ot_ge : OpTR X c (compareOp .GtE) oGe := opT_ord op_ge op_ge_str (fun d e Q q => by cases d <;> cases e <;> first | exact .inl ⟨_, _, rfl, rfl, q⟩ | exact .inr ⟨_, _, rfl, rfl, q⟩ | exact q.elim) fun d1 d2 Q Q' w q => by cases d1 <;> cases d2 <;> first | exact w _ q | exact q

/-- a tuple that is new or one that stands -/
theorem repTup {N : Addr → Prop} {H : Hp} {p : Addr} {vs : List V} {ds : List D} (fr : ∀ p, H p = none → ¬ c.b.Γ p ∧ ¬ N p) (hp : H p = none) (r : Reps c.b N H ds vs) : Same H (upd H p (.tup vs)) ∧ RepS .f c.b N H (upd H p (.tup vs)) (.tup ds) (.ref p) := by
  have sm : Same H (upd H p (.tup vs)) := fun a u e => by rw [upd_ne (ne_of_none e hp)]; exact e
  exact ⟨sm, ⟨p, vs, rfl, (fr p hp).1, SqT.of upd_same, r.keep (.same sm)⟩, fun z => by cases z⟩
theorem repLst {N : Addr → Prop} {H : Hp} {p : Addr} {vs : List V} {ds : List D} (fr : ∀ p, H p = none → ¬ c.b.Γ p ∧ ¬ N p) (hp : H p = none) (r : Reps c.b N H ds vs) : Same H (upd H p (.lst vs)) ∧ RepS .f c.b N H (upd H p (.lst vs)) (.lst ds) (.ref p) := by
  have sm : Same H (upd H p (.lst vs)) := fun a u e => by rw [upd_ne (ne_of_none e hp)]; exact e
  exact ⟨sm, ⟨p, vs, rfl, (fr p hp).1, (fr p hp).2, upd_same, r.keep (.same sm)⟩, fun _ => ⟨p, rfl, hp, p, vs, rfl, (fr p hp).1, upd_same, r.stay (Keep.same sm).stay fun a z => z.imp id fun z => by rw [z]; exact hp⟩⟩
theorem ot_add : OpTR X c (binaryOp .Add) oAdd :=
  ⟨fun d1 d2 Q Q' w q => by cases d1 <;> cases d2 <;> first | exact ⟨q.1, w _ q.2⟩ | exact w _ q | exact q,
   fun hK _ => ⟨_, op_add.or (op_add_str.or (op_catA.or op_cat)), fun N d1 d2 x y H Qd Qv fr r1 r2 q k => by
    cases d1 with
    | int i => cases d2 with
      | int j => exact .inl ⟨i, j, r1, r2, k _ q _ _ (fun _ _ e => e) ⟨rfl, fun z => by cases z⟩⟩
      | _ => exact q.elim
    | str i => cases d2 with
      | str j => exact .inr (.inl ⟨i, j, r1, r2, q.1, k _ q.2 _ _ (fun _ _ e => e) ⟨rfl, fun z => by cases z⟩⟩)
      | _ => exact q.elim
    | tup i => cases d2 with
      | tup j =>
        obtain ⟨p1, vs, e1, g1, s1, rs⟩ := r1
        obtain ⟨p2, us, e2, g2, s2, rs2⟩ := r2
        have l1 := rs.length
        have l2 := rs2.length
        refine .inr (.inr (.inl ⟨p1, p2, vs, us, e1, e2, hK ▸ s1, hK ▸ s2, by rw [← l1, ← l2]; exact q.1, fun z => ?_, fun z1 z => ?_, fun _ _ p hp => ?_⟩))
        · subst z
          obtain rfl : i = [] := List.length_eq_zero_iff.mp l1
          exact k _ q.2 _ _ (fun _ _ e => e) ⟨⟨p2, us, rfl, g2, s2, rs2⟩, fun z => by cases z⟩
        · subst z
          obtain rfl : j = [] := List.length_eq_zero_iff.mp l2
          refine k _ q.2 _ _ (fun _ _ e => e) ⟨⟨p1, vs, rfl, g1, s1, ?_⟩, fun z => by cases z⟩
          rw [List.append_nil]
          exact rs
        · obtain ⟨sm, rf⟩ := repTup (c := c) fr hp (rs.append rs2)
          exact k _ q.2 _ _ sm rf
      | _ => exact q.elim
    | lst i => cases d2 with
      | lst j =>
        obtain ⟨p1, vs, e1, g1, s1, rs⟩ := r1
        obtain ⟨p2, us, e2, g2, s2, rs2⟩ := r2
        refine .inr (.inr (.inr ⟨p1, p2, vs, us, e1, e2, s1, s2, by rw [← rs.length, ← rs2.length]; exact q.1, fun p hp => ?_⟩))
        obtain ⟨sm, rf⟩ := repLst (c := c) fr hp (rs.append rs2)
        exact k _ q.2 _ _ sm rf
      | _ => exact q.elim
    | _ => cases d2 <;> exact q.elim⟩⟩
theorem ot_mul : OpTR X c (binaryOp .Mult) oMul :=
  ⟨fun d1 d2 Q Q' w q => by cases d1 <;> cases d2 <;> first | exact ⟨q.1, w _ q.2⟩ | exact q,
   fun hK _ => ⟨_, op_mul.or (op_mulW.or op_rep), fun N d1 d2 x y H Qd Qv fr r1 r2 q k => by
    cases d1 with
    | int i => cases d2 with
      | int j =>
        rcases q.1 with z | z
        · exact .inl ⟨i, j, r1, r2, z, k _ q.2 _ _ (fun _ _ e => e) ⟨rfl, fun z => by cases z⟩⟩
        · exact .inr (.inl ⟨i, j, r1, r2, z, k _ q.2 _ _ (fun _ _ e => e) ⟨rfl, fun z => by cases z⟩⟩)
      | _ => exact q.elim
    | lst i => cases d2 with
      | int j =>
        obtain ⟨p1, vs, e1, g1, s1, rs⟩ := r1
        obtain ⟨⟨h1, h2, h3⟩, q⟩ := q
        refine .inr (.inr ⟨p1, j, vs, e1, r2, s1, h1, h2, by rw [← rs.length]; exact h3, fun p hp => ?_⟩)
        obtain ⟨sm, rf⟩ := repLst (c := c) fr hp (rs.rep j.toNat)
        exact k _ q _ _ sm rf
      | _ => exact q.elim
    | _ => cases d2 <;> exact q.elim⟩⟩

/-! ### == != in is -/
@[simp] def oEq : D → D → (D → Prop) → Prop := fun d e Q => (d.pl = true ∧ e.pl = true ∧ SeqAt.shaped d.py = true ∧ SeqAt.shaped e.py = true) ∧ Q (.bl (PyData.eqv d.py e.py))
@[simp] def oNe : D → D → (D → Prop) → Prop := fun d e Q => (d.pl = true ∧ e.pl = true ∧ SeqAt.shaped d.py = true ∧ SeqAt.shaped e.py = true) ∧ Q (.bl (!PyData.eqv d.py e.py))
theorem ot_eq : OpTR X c (compareOp .Eq) oEq :=
  ⟨fun d1 d2 Q Q' w q => ⟨q.1, w _ q.2⟩, fun hK hu => ⟨_, op_eqD (by omega), fun N d1 d2 x y H Qd Qv fr r1 r2 ⟨⟨h1, h2, h3, h4⟩, q⟩ k =>
    ⟨_, _, hK ▸ repB_dp r1 h1, hK ▸ repB_dp r2 h2, h3, h4, k _ q _ _ (fun _ _ e => e) ⟨rfl, fun z => by cases z⟩⟩⟩⟩
theorem ot_ne : OpTR X c (compareOp .NotEq) oNe :=
  ⟨fun d1 d2 Q Q' w q => ⟨q.1, w _ q.2⟩, fun hK hu => ⟨_, op_neD (by omega), fun N d1 d2 x y H Qd Qv fr r1 r2 ⟨⟨h1, h2, h3, h4⟩, q⟩ k =>
    ⟨_, _, hK ▸ repB_dp r1 h1, hK ▸ repB_dp r2 h2, h3, h4, k _ q _ _ (fun _ _ e => e) ⟨rfl, fun z => by cases z⟩⟩⟩⟩
def D.isNon : D → Bool
  | .non => true
  | _ => false
@[simp] def oIs : D → D → (D → Prop) → Prop
  | d, .non, Q => Q (.bl d.isNon)
  | _, _, _ => False
@[simp] def oIsNot : D → D → (D → Prop) → Prop
  | d, .non, Q => Q (.bl (!d.isNon))
  | _, _, _ => False
theorem isNon_of {b : B} {N : Addr → Prop} {H : Hp} {d : D} {v : V} (h : RepB b N H d v) : decide (v = .non) = d.isNon := by
  cases d with
  | non => cases (show v = .non from h); rfl
  | bl _ => cases (show v = .bl _ from h); rfl
  | int _ => cases (show v = .int _ from h); rfl
  | str _ => cases (show v = .str _ from h); rfl
  | tup ds => obtain ⟨a, vs, e, _⟩ := h; subst e; rfl
  | lst ds => obtain ⟨a, vs, e, _⟩ := h; subst e; rfl
  | obj _ _ _ => obtain ⟨a, vs, _, e, _⟩ := h; subst e; rfl
  | sel _ _ _ _ => obtain ⟨a, vs, _, e, _⟩ := h; subst e; rfl
  | xdt _ _ => obtain ⟨a, vs, e, _⟩ := h; subst e; rfl
  | dct _ _ _ => obtain ⟨a, vs, e, _⟩ := h; subst e; rfl
  | hnd _ => cases (show v = .ref _ from h); rfl
theorem ot_is : OpTR X c (compareOp .Is) oIs :=
  ⟨fun d1 d2 Q Q' w q => by cases d2 <;> first | exact w _ q | exact q, fun hK hu => ⟨_, op_isN, fun N d1 d2 x y H Qd Qv fr r1 r2 q k => by
    cases d2 with
    | non =>
      refine ⟨r2, ?_⟩
      rw [isNon_of r1]
      exact k _ q _ _ (fun _ _ e => e) ⟨rfl, fun z => by cases z⟩
    | _ => exact q.elim⟩⟩
theorem ot_isnot : OpTR X c (compareOp .IsNot) oIsNot :=
  ⟨fun d1 d2 Q Q' w q => by cases d2 <;> first | exact w _ q | exact q, fun hK hu => ⟨_, op_notN, fun N d1 d2 x y H Qd Qv fr r1 r2 q k => by
    cases d2 with
    | non =>
      refine ⟨r2, ?_⟩
      rw [isNon_of r1]
      exact k _ q _ _ (fun _ _ e => e) ⟨rfl, fun z => by cases z⟩
    | _ => exact q.elim⟩⟩
@[simp] def oIn' (neg : Bool) : D → D → (D → Prop) → Prop
  | d, .str z, Q => ∃ k : Nat, d = .str ⟨#[k]⟩ ∧ Q (.bl (if neg then !decide (k ∈ z.cps.toList) else decide (k ∈ z.cps.toList)))
  | d, .tup es, Q => (d.flat = true ∧ es.all D.flat = true) ∧ Q (.bl (if neg then !inV d.fv (es.map D.fv) else inV d.fv (es.map D.fv)))
  | d, .lst es, Q => (d.flat = true ∧ es.all D.flat = true) ∧ Q (.bl (if neg then !inV d.fv (es.map D.fv) else inV d.fv (es.map D.fv)))
  | _, _, _ => False
abbrev oIn := oIn' false
abbrev oNotIn := oIn' true
theorem opT_in {neg : Bool} {f : Value → Value → Sem Value} (h : OpR X f (rIn X.K neg)) (h2 : OpR X f (fun x y H Q => ∃ (k : Nat) (z : Str), x = .str ⟨#[k]⟩ ∧ y = .str z ∧ Q (.bl (if neg then !decide (k ∈ z.cps.toList) else decide (k ∈ z.cps.toList))) H)) : OpTR X c f (oIn' neg) :=
  ⟨fun d1 d2 Q Q' w q => by
    cases d2 with
    | str z => obtain ⟨k, e, q⟩ := q; exact ⟨k, e, w _ q⟩
    | tup z => exact ⟨q.1, w _ q.2⟩
    | lst z => exact ⟨q.1, w _ q.2⟩
    | _ => exact q.elim,
   fun hK hu => ⟨_, h.or h2, fun N d1 d2 x y H Qd Qv fr r1 r2 q k => by
    cases d2 with
    | str z =>
      obtain ⟨n, e, q⟩ := q
      subst e
      exact .inr ⟨n, z, r1, r2, k _ q _ _ (fun _ _ e => e) ⟨rfl, fun z => by cases z⟩⟩
    | tup z =>
      obtain ⟨⟨f1, f2⟩, q⟩ := q
      obtain ⟨p, vs, e, g, sq, rs⟩ := r2
      obtain ⟨e1, v1⟩ := rep_flat r1 f1
      obtain ⟨e2, v2⟩ := reps_flat rs f2
      refine .inl ⟨p, vs, e, .inr (hK ▸ sq), v1, v2, ?_⟩
      rw [e1, e2]
      exact k _ q _ _ (fun _ _ e => e) ⟨rfl, fun z => by cases z⟩
    | lst z =>
      obtain ⟨⟨f1, f2⟩, q⟩ := q
      obtain ⟨p, vs, e, g, sq, rs⟩ := r2
      obtain ⟨e1, v1⟩ := rep_flat r1 f1
      obtain ⟨e2, v2⟩ := reps_flat rs f2
      refine .inl ⟨p, vs, e, .inl (SqL.of sq), v1, v2, ?_⟩
      rw [e1, e2]
      exact k _ q _ _ (fun _ _ e => e) ⟨rfl, fun z => by cases z⟩
    | _ => exact q.elim⟩⟩
theorem ot_in : OpTR X c (compareOp .In) oIn := opT_in op_in_seq op_in_sign
theorem ot_notin : OpTR X c (compareOp .NotIn) oNotIn := opT_in op_notIn_seq op_notIn_sign
end
end TL
set_option Elab.async false
set_option linter.all false
set_option maxRecDepth 100000
set_option maxHeartbeats 2000000
/-! TL4: subscripts, slices, built-ins, fields. -/
namespace TL
open PySem PySem.Spec PyProof.Rows L2

section
variable {c : C} {X : Cx} {s : S} {e a b' : Expr} {t ta tb : TTE c.b.G} {pos : Pos}

/-! ### a[i] -/
@[simp] def oIx : D → D → (D → Prop) → Prop
  | .tup ds, .int i, Q => ∃ d, atI ds i = some d ∧ Q d
  | .lst ds, .int i, Q => ∃ d, atI ds i = some d ∧ Q d
  | .str z, .int i, Q => ∃ k : Nat, (z.length ≤ sizeLine ∧ atI z.cps.toList i = some k) ∧ Q (.str ⟨#[k]⟩)
  | _, _, _ => False
theorem oIx_mono : ∀ d1 d2 Q Q', (∀ d, Q d → Q' d) → oIx d1 d2 Q → oIx d1 d2 Q' := fun d1 d2 Q Q' w q => by
  cases d1 <;> cases d2 <;> first | exact q.elim | (obtain ⟨k, h, q⟩ := q; exact ⟨k, h, w _ q⟩)
theorem atI_reps {b : B} {N : Addr → Prop} {H : Hp} {ds : List D} {vs : List V} {i : Int} {d : D} (r : Reps b N H ds vs) (h : atI ds i = some d) : ∃ v, atI vs i = some v ∧ Rep b N H d v := by
  unfold atI at h ⊢
  rw [r.length] at h
  cases q : ixN vs.length i with
  | none => rw [q] at h; cases h
  | some j =>
    rw [q] at h
    exact r.get h
theorem et_ix {s1 s2 : S} (ha : PEt c s1 X a ta) (hb : PEt c s2 X b' tb) (hs : PlainIx b' := by exact fun _ _ => rfl) : PEt c .r X (.Subscript a b' pos) (tOpT oIx ta tb) :=
  ⟨fun ρ g ex Q Q' w q => ha.mono _ _ _ _ _ (fun x g1 q => hb.mono _ _ _ _ _ (fun y g2 q => oIx_mono _ _ _ _ (fun d q => w _ _ q) q) q) q,
   fun ex ok => PE.weak (pe_ix ix_seq (ha.run ex ok) (hb.run ex ok) hs) fun σ H Q ⟨N, ρ, g, R, q⟩ => by
    refine ⟨N, ρ, g, R, ha.mono _ _ _ _ _ (fun d1 g1 q x H1 R1 t1 k1 r1 => ?_) q⟩
    refine ⟨N, ρ, g1, R1, hb.mono _ _ _ _ _ (fun d2 g2 q y H2 R2 t2 k2 r2 => ?_) q⟩
    have t3 : ∀ a, H a ≠ none → H2 a ≠ none := fun a z => t2 a (t1 a z)
    have r1' := RepS.tob (r1.keep k2)
    have r2' := r2.tob
    cases d2 with
    | int i =>
      cases (show y = .int i from r2')
      cases d1 with
      | tup ds =>
        obtain ⟨p, vs, e, gm, sq, rs⟩ := r1'
        obtain ⟨d, hd, q⟩ := q
        obtain ⟨v, hv, rv⟩ := atI_reps rs hd
        subst e
        exact .inr (.inl ⟨p, vs, i, v, rfl, rfl, ok.hK ▸ sq, hv, q v H2 R2 t3 (k1.trans k2) rv⟩)
      | lst ds =>
        obtain ⟨p, vs, e, gm, sq, rs⟩ := r1'
        obtain ⟨d, hd, q⟩ := q
        obtain ⟨v, hv, rv⟩ := atI_reps rs hd
        subst e
        exact .inl ⟨p, vs, i, v, rfl, rfl, SqL.of sq, hv, q v H2 R2 t3 (k1.trans k2) rv⟩
      | str z =>
        obtain ⟨k, ⟨h1, h2⟩, q⟩ := q
        cases (show x = .str z from r1')
        exact .inr (.inr ⟨z, i, k, rfl, rfl, h1, h2, q _ H2 R2 t3 (k1.trans k2) rfl⟩)
      | _ => exact q.elim
    | _ => cases d1 <;> exact q.elim⟩

/-! ### slices -/
abbrev TTO (G : Type) := Rho → G → TX G → (Option Int → G → Prop) → Prop
def liftO (c : C) (t : TTO c.b.G) (ex : TX c.b.G) : TO := fun σ H Q => ∃ N ρ g, Rn c N ρ g σ H ∧ t ρ g ex (fun k g' => ∀ H', Rn c N ρ g' σ H' → (∀ a, H a ≠ none → H' a ≠ none) → Keep c.b H H' → Q k H')
structure POt (c : C) (X : Cx) (e : Option Expr) (t : TTO c.b.G) : Prop where
  mono : ∀ ρ g ex Q Q', (∀ d g, Q d g → Q' d g) → t ρ g ex Q → t ρ g ex Q'
  run : ∀ ex, XOk X c ex → PO X e (liftO c t ex)
theorem PO.weak {X : Cx} {e : Option Expr} {t t' : TO} (h : PO X e t) (w : ∀ σ H Q, t' σ H Q → t σ H Q) : PO X e t' := ⟨fun pins s σ H Q I q => h.run pins s σ H Q I (w _ _ _ q)⟩
@[simp] def tNoT {G : Type} : TTO G := fun _ g _ Q => Q none g
@[simp] def tAtT {G : Type} (t : TTE G) : TTO G := fun ρ g ex Q => t ρ g ex fun d g' => ∃ i, d = .int i ∧ Q (some i) g'
theorem ot_none : POt c X none tNoT := ⟨fun ρ g ex Q Q' w q => w _ _ q, fun ex ok => PO.weak po_none fun σ H Q ⟨N, ρ, g, R, q⟩ => q H R (fun _ z => z) .refl⟩
theorem ot_some (h : PEt c s X e t) : POt c X (some e) (tAtT t) :=
  ⟨fun ρ g ex Q Q' w q => h.mono _ _ _ _ _ (fun d g' ⟨i, e, q⟩ => ⟨i, e, w _ _ q⟩) q,
   fun ex ok => PO.weak (po_some (h.run ex ok)) fun σ H Q ⟨N, ρ, g, R, q⟩ => ⟨N, ρ, g, R, h.mono _ _ _ _ _ (fun d g' ⟨i, e, q⟩ v H' R' th k r => by
     subst e
     exact ⟨i, r.tob, q H' R' th k⟩) q⟩⟩
def cutD (ds : List D) (lo hi : Option Int) : List D := (ds.drop (HT.sIx ds.length 0 lo)).take (HT.sIx ds.length ds.length hi - HT.sIx ds.length 0 lo)
theorem cut_reps {b : B} {N : Addr → Prop} {H : Hp} {ds : List D} {vs : List V} (r : Reps b N H ds vs) (lo hi : Option Int) : Reps b N H (cutD ds lo hi) (cutV vs lo hi) := by
  unfold cutD cutV
  rw [r.length]
  exact (r.drop _).take _
@[simp] def oSl : D → Option Int → Option Int → (D → Prop) → Prop
  | .tup ds, lo, hi, Q => Q (.tup (cutD ds lo hi))
  | .lst ds, lo, hi, Q => Q (.lst (cutD ds lo hi))
  | .str z, lo, hi, Q => z.length ≤ sizeLine ∧ Q (.str (cutS z lo hi))
  | _, _, _, _ => False
@[simp] def tSlT {G : Type} (te : TTE G) (tl th : TTO G) : TTE G := fun ρ g ex Q => te ρ g ex fun d g1 => tl ρ g1 ex fun l g2 => th ρ g2 ex fun u g3 => oSl d l u fun r => Q r g3
theorem cut_whole {ds : List D} {lo hi : Option Int} (h : HT.sIx ds.length 0 lo = 0 ∧ HT.sIx ds.length ds.length hi = ds.length) : cutD ds lo hi = ds := by
  unfold cutD
  rw [h.1, h.2]
  simp
theorem oSl_mono : ∀ d l u Q Q', (∀ d, Q d → Q' d) → oSl d l u Q → oSl d l u Q' := fun d l u Q Q' w q => by
  cases d <;> first | exact q.elim | exact w _ q | exact ⟨q.1, w _ q.2⟩
theorem et_slice {lo hi : Option Expr} {tl th : TTO c.b.G} {p2 : Pos} (he : PEt c s X e t) (hl : POt c X lo tl) (hh : POt c X hi th) : PEt c .f X (.Subscript e (.Slice lo hi none p2) pos) (tSlT t tl th) :=
  ⟨fun ρ g ex Q Q' w q => he.mono _ _ _ _ _ (fun d g1 q => hl.mono _ _ _ _ _ (fun l g2 q => hh.mono _ _ _ _ _ (fun u g3 q => oSl_mono _ _ _ _ _ (fun r q => w _ _ q) q) q) q) q,
   fun ex ok => PE.weak (pe_slice (sl_tupA.or (sl_list.or sl_str)) (he.run ex ok) (hl.run ex ok) (hh.run ex ok)) fun σ H Q ⟨N, ρ, g, R, q⟩ => by
    refine ⟨N, ρ, g, R, he.mono _ _ _ _ _ (fun d g1 q x H1 R1 t1 k1 r1 => ?_) q⟩
    refine ⟨N, ρ, g1, R1, hl.mono _ _ _ _ _ (fun l g2 q H2 R2 t2 k2 => ?_) q⟩
    refine ⟨N, ρ, g2, R2, hh.mono _ _ _ _ _ (fun u g3 q H3 R3 t3 k3 => ?_) q⟩
    have th : ∀ a, H a ≠ none → H3 a ≠ none := fun a z => t3 a (t2 a (t1 a z))
    have kk := (k1.trans k2).trans k3
    have r := RepS.tob ((r1.keep k2).keep k3)
    cases d with
    | tup ds =>
      obtain ⟨p, vs, e, gm, sq, rs⟩ := r
      subst e
      refine .inl ⟨p, vs, rfl, ok.hK ▸ sq, fun w => ?_, fun w p hp => ?_⟩
      · rw [← rs.length] at w
        have q' := show (fun r => ∀ v H', Rn c N ρ g3 σ H' → (∀ a, H a ≠ none → H' a ≠ none) → Keep c.b H H' → RepS .f c.b N H H' r v → Q v H') (.tup (cutD ds l u)) from q
        rw [cut_whole w] at q'
        exact q' _ H3 R3 th kk ⟨⟨p, vs, rfl, gm, sq, rs⟩, fun z => by cases z⟩
      · obtain ⟨sm, rf⟩ := repTup (c := c) (fun p z => R3.fresh z) hp (cut_reps rs l u)
        exact q _ _ (R3.same sm) (fun a z => same_there sm a (th a z)) (kk.trans (.same sm)) (rf.start fun p z => back th p z)
    | lst ds =>
      obtain ⟨p, vs, e, gm, sq, rs⟩ := r
      subst e
      refine .inr (.inl ⟨p, vs, rfl, SqL.of sq, fun p hp => ?_⟩)
      obtain ⟨sm, rf⟩ := repLst (c := c) (fun p z => R3.fresh z) hp (cut_reps rs l u)
      exact q _ _ (R3.same sm) (fun a z => same_there sm a (th a z)) (kk.trans (.same sm)) (rf.start fun p z => back th p z)
    | str z =>
      cases (show x = .str z from r)
      exact .inr (.inr ⟨z, rfl, q.1, q.2 _ H3 R3 th kk ⟨rfl, fun z => by cases z⟩⟩)
    | _ => exact q.elim⟩
/-- xs[::-1] of a list -/
@[simp] def tRevT {G : Type} (t : TTE G) : TTE G := fun ρ g ex Q => t ρ g ex fun d g' => ∃ ds, d = .lst ds ∧ Q (.lst ds.reverse) g'
theorem et_revL {k : Nat} {p1 p2 p3 : Pos} (he : PEt c s X e t) : PEt c .f X (.Subscript e (.Slice none none (some (.UnaryOp .USub (.Constant (.int 1) k p1) p2)) p3) pos) (tRevT t) :=
  ⟨fun ρ g ex Q Q' w q => he.mono _ _ _ _ _ (fun d g' ⟨ds, e, q⟩ => ⟨ds, e, w _ _ q⟩) q,
   fun ex ok => PE.weak (pe_revL (he.run ex ok)) fun σ H Q ⟨N, ρ, g, R, q⟩ => ⟨N, ρ, g, R, he.mono _ _ _ _ _ (fun d g1 ⟨ds, e, q⟩ x H1 R1 t1 k1 r1 => by
    subst e
    obtain ⟨p, vs, e, gm, sq, rs⟩ := r1.tob
    subst e
    refine ⟨p, vs, rfl, SqL.of sq, fun p hp => ?_⟩
    obtain ⟨sm, rf⟩ := repLst (c := c) (fun p z => R1.fresh z) hp rs.reverse
    exact q _ _ (R1.same sm) (fun a z => same_there sm a (t1 a z)) (k1.trans (.same sm)) (rf.start fun p z => back t1 p z)) q⟩⟩

/-! ### built-in calls -/
structure CallTR (X : Cx) (c : C) (f : Value) (o : List D → (D → Prop) → Prop) : Prop where
  mono : ∀ ds Q Q', (∀ d, Q d → Q' d) → o ds Q → o ds Q'
  ok : X.K = c.b.K → ∃ r, CallR X f r ∧ ∀ N ds vs H Qd Qv, (∀ p, H p = none → ¬ c.b.Γ p ∧ ¬ N p) → RepSs .b c.b N H H ds vs → o ds Qd →
    (∀ d, Qd d → ∀ v H', Same H H' → RepS .f c.b N H H' d v → Qv v H') → r vs H Qv
@[simp] def tCallO {G : Type} (o : List D → (D → Prop) → Prop) (t : TTA G) : TTE G := fun ρ g ex Q => t ρ g ex fun ds g' => o ds fun d => Q d g'
variable {es : List Expr} {tr : TTA c.b.G}
theorem callO_lift {f : Value} {o : List D → (D → Prop) → Prop} {ex : TX c.b.G} (ho : CallTR X c f o) (h : PAt c .b X es tr) (hK : X.K = c.b.K) :
    ∃ r, CallR X f r ∧ ∀ σ H Q, liftE c .f (tCallO o tr) ex σ H Q → tCB r (liftA c .b tr ex) σ H Q := by
  obtain ⟨r, h1, h2⟩ := ho.ok hK
  refine ⟨r, h1, fun σ H Q ⟨N, ρ, g, R, q⟩ => ⟨N, ρ, g, R, h.mono _ _ _ _ _ (fun ds g1 q vs H1 R1 t1 k1 r1 => ?_) q⟩⟩
  have r1' : RepSs .b c.b N H1 H1 ds vs := by
    clear q
    induction r1 with
    | nil => exact .nil
    | cons h _ ih => exact .cons (show RepS .b c.b N H1 H1 _ _ from h) ih
  refine h2 N ds vs H1 _ _ (fun p z => R1.fresh z) r1' q fun d q v H' sm rf => ?_
  exact q v H' (R1.same sm) (fun a z => same_there sm a (t1 a z)) (k1.trans (.same sm)) (rf.start fun p z => back t1 p z)
theorem et_callB {id : String} {x : Str} {p : Pos} {o : List D → (D → Prop) → Prop} (hc : CallTR X c (.builtin id) o) (hg : Gl X x) (hm : X.mg x = none) (hv : bootBuiltins x = some (.builtin id)) (ha : PAt c .b X (e :: es) tr)
    (hn : x ≠ "__name__" := by decide) (hdb : (x == ("__debug__" : Str)) = false := by decide) (hs : starEach (e :: es) X.env = (false, eval e X.env) :: starEach es X.env := by rfl) (hpl : (backTo pos (starEach es X.env)).any (·.1) = false := by rfl) : PEt c .f X (.Call (.Name x p) (e :: es) [] pos) (tCallO o tr) :=
  ⟨fun ρ g ex Q Q' w q => ha.mono _ _ _ _ _ (fun ds g' q => hc.mono _ _ _ (fun d q => w _ _ q) q) q, fun ex ok => by
    obtain ⟨r, h1, h2⟩ := callO_lift (ex := ex) hc ha ok.hK
    exact PE.weak (pe_callB h1 hg hm hv (ha.run ex ok) hn hdb hs hpl) h2⟩
theorem et_callTy {T : String} {x : Str} {p : Pos} {o : List D → (D → Prop) → Prop} (hc : CallTR X c (.type T) o) (hg : Gl X x) (hm : X.mg x = none) (hv : bootBuiltins x = some (.type T)) (ha : PAt c .b X (e :: es) tr)
    (hn : x ≠ "__name__" := by decide) (hdb : (x == ("__debug__" : Str)) = false := by decide) (hs : starEach (e :: es) X.env = (false, eval e X.env) :: starEach es X.env := by rfl) (hpl : (backTo pos (starEach es X.env)).any (·.1) = false := by rfl) : PEt c .f X (.Call (.Name x p) (e :: es) [] pos) (tCallO o tr) :=
  ⟨fun ρ g ex Q Q' w q => ha.mono _ _ _ _ _ (fun ds g' q => hc.mono _ _ _ (fun d q => w _ _ q) q) q, fun ex ok => by
    obtain ⟨r, h1, h2⟩ := callO_lift (ex := ex) hc ha ok.hK
    exact PE.weak (pe_callTy h1 hg hm hv (ha.run ex ok) hn hdb hs hpl) h2⟩

theorem reps1 {b : B} {N : Addr → Prop} {H : Hp} {d : D} {vs : List V} (r : RepSs .b b N H H [d] vs) : ∃ v, vs = [v] ∧ RepB b N H d v := by
  cases r with
  | cons h r => cases r; exact ⟨_, rfl, h⟩
theorem reps2 {b : B} {N : Addr → Prop} {H : Hp} {d e : D} {vs : List V} (r : RepSs .b b N H H [d, e] vs) : ∃ v u, vs = [v, u] ∧ RepB b N H d v ∧ RepB b N H e u := by
  cases r with
  | cons h r => cases r with
    | cons h2 r => cases r; exact ⟨_, _, rfl, h, h2⟩
@[simp] def oLen : List D → (D → Prop) → Prop
  | [.str z], Q => z.length ≤ sizeLine ∧ Q (.int z.length)
  | [.tup ds], Q => Q (.int ds.length)
  | [.lst ds], Q => Q (.int ds.length)
  | _, _ => False
theorem ct_len : CallTR X c (.builtin "len") oLen :=
  ⟨fun ds Q Q' w q => by
    match ds, q with
    | [.str z], q => exact ⟨q.1, w _ q.2⟩
    | [.tup z], q => exact w _ q
    | [.lst z], q => exact w _ q,
   fun hK => ⟨_, call_len, fun N ds vs H Qd Qv fr r q k => by
    match ds, q with
    | [.str z], q =>
      obtain ⟨v, rfl, r'⟩ := reps1 r
      cases (show v = .str z from r')
      exact ⟨_, _, rfl, ⟨q.1, rfl⟩, k _ q.2 _ _ (fun _ _ e => e) ⟨rfl, fun z => by cases z⟩⟩
    | [.tup z], q =>
      obtain ⟨v, rfl, r'⟩ := reps1 r
      obtain ⟨p, vs, e, gm, sq, rs⟩ := r'
      subst e
      refine ⟨_, vs.length, rfl, .inr ⟨vs, hK ▸ sq, rfl⟩, ?_⟩
      rw [← rs.length]
      exact k _ q _ _ (fun _ _ e => e) ⟨rfl, fun z => by cases z⟩
    | [.lst z], q =>
      obtain ⟨v, rfl, r'⟩ := reps1 r
      obtain ⟨p, vs, e, gm, sq, rs⟩ := r'
      subst e
      refine ⟨_, vs.length, rfl, .inl ⟨vs, SqL.of sq, rfl⟩, ?_⟩
      rw [← rs.length]
      exact k _ q _ _ (fun _ _ e => e) ⟨rfl, fun z => by cases z⟩⟩⟩
@[simp] def oInt : List D → (D → Prop) → Prop
  | [.int i], Q => Q (.int i)
  | [.bl k], Q => Q (.int (if k = true then 1 else 0))
  | _, _ => False
theorem ct_int : CallTR X c (.type "int") oInt :=
  ⟨fun ds Q Q' w q => by
    match ds, q with
    | [.int z], q => exact w _ q
    | [.bl z], q => exact w _ q,
   fun hK => ⟨_, call_int1, fun N ds vs H Qd Qv fr r q k => by
    match ds, q with
    | [.int z], q =>
      obtain ⟨v, rfl, r'⟩ := reps1 r
      cases (show v = .int z from r')
      exact .inl ⟨_, rfl, k _ q _ _ (fun _ _ e => e) ⟨rfl, fun z => by cases z⟩⟩
    | [.bl z], q =>
      obtain ⟨v, rfl, r'⟩ := reps1 r
      cases (show v = .bl z from r')
      exact .inr ⟨_, rfl, k _ q _ _ (fun _ _ e => e) ⟨rfl, fun z => by cases z⟩⟩⟩⟩
@[simp] def oTuple : List D → (D → Prop) → Prop
  | [.tup ds], Q => Q (.tup ds)
  | [.lst ds], Q => Q (.tup ds)
  | _, _ => False
theorem ct_tuple : CallTR X c (.type "tuple") oTuple :=
  ⟨fun ds Q Q' w q => by
    match ds, q with
    | [.tup z], q => exact w _ q
    | [.lst z], q => exact w _ q,
   fun hK => ⟨_, call_tuple_of, fun N ds vs H Qd Qv fr r q k => by
    match ds, q with
    | [.tup z], q =>
      obtain ⟨v, rfl, r'⟩ := reps1 r
      obtain ⟨p, vs, e, gm, sq, rs⟩ := r'
      subst e
      exact ⟨p, vs, rfl, .inr ⟨hK ▸ sq, k _ q _ _ (fun _ _ e => e) ⟨⟨p, vs, rfl, gm, sq, rs⟩, fun z => by cases z⟩⟩⟩
    | [.lst z], q =>
      obtain ⟨v, rfl, r'⟩ := reps1 r
      obtain ⟨p, vs, e, gm, sq, rs⟩ := r'
      subst e
      refine ⟨p, vs, rfl, .inl ⟨SqL.of sq, fun l hl => ?_⟩⟩
      obtain ⟨sm, rf⟩ := repTup (c := c) fr hl rs
      exact k _ q _ _ sm rf⟩⟩
@[simp] def oList : List D → (D → Prop) → Prop
  | [.tup ds], Q => Q (.lst ds)
  | [.lst ds], Q => Q (.lst ds)
  | _, _ => False
theorem ct_list : CallTR X c (.type "list") oList :=
  ⟨fun ds Q Q' w q => by
    match ds, q with
    | [.tup z], q => exact w _ q
    | [.lst z], q => exact w _ q,
   fun hK => ⟨_, call_list_of, fun N ds vs H Qd Qv fr r q k => by
    match ds, q with
    | [.tup z], q =>
      obtain ⟨v, rfl, r'⟩ := reps1 r
      obtain ⟨p, vs, e, gm, sq, rs⟩ := r'
      subst e
      refine ⟨p, vs, rfl, .inr (hK ▸ sq), fun l hl => ?_⟩
      obtain ⟨sm, rf⟩ := repLst (c := c) fr hl rs
      exact k _ q _ _ sm rf
    | [.lst z], q =>
      obtain ⟨v, rfl, r'⟩ := reps1 r
      obtain ⟨p, vs, e, gm, sq, rs⟩ := r'
      subst e
      refine ⟨p, vs, rfl, .inl (SqL.of sq), fun l hl => ?_⟩
      obtain ⟨sm, rf⟩ := repLst (c := c) fr hl rs
      exact k _ q _ _ sm rf⟩⟩
@[simp] def oMin : List D → (D → Prop) → Prop
  | [.int i, .int j], Q => Q (.int (if j < i then j else i))
  | _, _ => False
@[simp] def oMax : List D → (D → Prop) → Prop
  | [.int i, .int j], Q => Q (.int (if j > i then j else i))
  | _, _ => False
theorem ct_min (hc : X.calm = true := by rfl) : CallTR X c (.builtin "min") oMin :=
  ⟨fun ds Q Q' w q => by
    match ds, q with
    | [.int z, .int u], q => exact w _ q,
   fun hK => ⟨_, call_min2 hc, fun N ds vs H Qd Qv fr r q k => by
    match ds, q with
    | [.int z, .int u], q =>
      obtain ⟨v, w, rfl, r', r2⟩ := reps2 r
      cases (show v = .int z from r')
      cases (show w = .int u from r2)
      exact ⟨_, _, rfl, k _ q _ _ (fun _ _ e => e) ⟨rfl, fun z => by cases z⟩⟩⟩⟩
theorem ct_max (hc : X.calm = true := by rfl) : CallTR X c (.builtin "max") oMax :=
  ⟨fun ds Q Q' w q => by
    match ds, q with
    | [.int z, .int u], q => exact w _ q,
   fun hK => ⟨_, call_max2 hc, fun N ds vs H Qd Qv fr r q k => by
    match ds, q with
    | [.int z, .int u], q =>
      obtain ⟨v, w, rfl, r', r2⟩ := reps2 r
      cases (show v = .int z from r')
      cases (show w = .int u from r2)
      exact ⟨_, _, rfl, k _ q _ _ (fun _ _ e => e) ⟨rfl, fun z => by cases z⟩⟩⟩⟩
theorem reps_bls {b : B} {N : Addr → Prop} {H : Hp} : ∀ {bs : List Bool} {vs : List V}, Reps b N H (bs.map D.bl) vs → vs = bs.map V.bl
  | [], vs, h => show vs = [] from h
  | k :: bs, vs, h => by
    obtain ⟨v, r, e, h1, h2⟩ := h
    subst e
    rw [show v = .bl k from h1, reps_bls h2]
    rfl
theorem reps_strs {b : B} {N : Addr → Prop} {H : Hp} : ∀ {bs : List Str} {vs : List V}, Reps b N H (bs.map D.str) vs → vs = bs.map V.str
  | [], vs, h => show vs = [] from h
  | k :: bs, vs, h => by
    obtain ⟨v, r, e, h1, h2⟩ := h
    subst e
    rw [show v = .str k from h1, reps_strs h2]
    rfl
theorem reps_ints {b : B} {N : Addr → Prop} {H : Hp} : ∀ {bs : List Int} {vs : List V}, Reps b N H (bs.map D.int) vs → vs = bs.map V.int
  | [], vs, h => show vs = [] from h
  | k :: bs, vs, h => by
    obtain ⟨v, r, e, h1, h2⟩ := h
    subst e
    rw [show v = .int k from h1, reps_ints h2]
    rfl
theorem strs_reps {b : B} {N : Addr → Prop} {H : Hp} : ∀ bs : List Str, Reps b N H (bs.map D.str) (bs.map V.str)
  | [] => rfl
  | k :: bs => ⟨_, _, rfl, rfl, strs_reps bs⟩
theorem ints_reps {b : B} {N : Addr → Prop} {H : Hp} : ∀ bs : List Int, Reps b N H (bs.map D.int) (bs.map V.int)
  | [] => rfl
  | k :: bs => ⟨_, _, rfl, rfl, ints_reps bs⟩
@[simp] def oAll : List D → (D → Prop) → Prop
  | [.lst ds], Q => ∃ bs : List Bool, ds = bs.map D.bl ∧ Q (.bl (bs.all id))
  | _, _ => False
@[simp] def oAny : List D → (D → Prop) → Prop
  | [.lst ds], Q => ∃ bs : List Bool, ds = bs.map D.bl ∧ Q (.bl (bs.any id))
  | _, _ => False
theorem ct_all (hc : X.calm = true := by rfl) : CallTR X c (.builtin "all") oAll :=
  ⟨fun ds Q Q' w q => by
    match ds, q with
    | [.lst z], ⟨bs, e, q⟩ => exact ⟨bs, e, w _ q⟩,
   fun hK => ⟨_, cr_all hc, fun N ds vs H Qd Qv fr r q k => by
    match ds, q with
    | [.lst z], ⟨bs, e, q⟩ =>
      obtain ⟨v, rfl, r'⟩ := reps1 r
      obtain ⟨p, vs, e', gm, sq, rs⟩ := r'
      subst e e'
      rw [reps_bls rs] at sq
      exact ⟨p, bs, rfl, SqL.of sq, k _ q _ _ (fun _ _ e => e) ⟨rfl, fun z => by cases z⟩⟩⟩⟩
theorem ct_any (hc : X.calm = true := by rfl) : CallTR X c (.builtin "any") oAny :=
  ⟨fun ds Q Q' w q => by
    match ds, q with
    | [.lst z], ⟨bs, e, q⟩ => exact ⟨bs, e, w _ q⟩,
   fun hK => ⟨_, cr_any hc, fun N ds vs H Qd Qv fr r q k => by
    match ds, q with
    | [.lst z], ⟨bs, e, q⟩ =>
      obtain ⟨v, rfl, r'⟩ := reps1 r
      obtain ⟨p, vs, e', gm, sq, rs⟩ := r'
      subst e e'
      rw [reps_bls rs] at sq
      exact ⟨p, bs, rfl, SqL.of sq, k _ q _ _ (fun _ _ e => e) ⟨rfl, fun z => by cases z⟩⟩⟩⟩
/-- sorted of fewer than 64 texts -/
@[simp] def oSortS : List D → (D → Prop) → Prop
  | [.lst ds], Q => ∃ ss : List Str, (ds = ss.map D.str ∧ ss.length < 64) ∧ ∀ ys : List Str, ys.Perm ss → sortedS ys = true → Q (.lst (ys.map D.str))
  | _, _ => False
theorem ct_sortS : CallTR X c (.builtin "sorted") oSortS :=
  ⟨fun ds Q Q' w q => by
    match ds, q with
    | [.lst z], ⟨bs, e, q⟩ => exact ⟨bs, e, fun ys h1 h2 => w _ (q ys h1 h2)⟩,
   fun hK => ⟨_, cr_sortedS, fun N ds vs H Qd Qv fr r q k => by
    match ds, q with
    | [.lst z], ⟨ss, ⟨e, hl⟩, q⟩ =>
      obtain ⟨v, rfl, r'⟩ := reps1 r
      obtain ⟨p, vs, e', gm, sq, rs⟩ := r'
      subst e e'
      rw [reps_strs rs] at sq
      refine ⟨p, ss, rfl, SqL.of sq, hl, fun ys l h1 h2 hl => ?_⟩
      obtain ⟨sm, rf⟩ := repLst (c := c) fr hl (strs_reps (b := c.b) (N := N) (H := H) ys)
      exact k _ (q ys h1 h2) _ _ sm rf⟩⟩

/-! ### fields -/
/-- a class's field may be read -/
def FieldOk (K : PySem.W.Frag) (cn f : Str) : Prop := Cls K (He.ga K cn) ∧ NoAttr K (He.ga K cn) f
@[simp] def oFld (cs : List Str) (f : Str) : D → (D → Prop) → Prop
  | .obj cn ns ds, Q => ∃ d, (cn ∈ cs ∧ (ns.zip ds).lookup f = some d) ∧ Q d
  | .sel ax cn ns ds, Q => ∃ d, (cn ∈ cs ∧ (ns.zip ds).lookup f = some d) ∧ Q d
  | _, _ => False
@[simp] def tFldT {G : Type} (cs : List Str) (f : Str) (t : TTE G) : TTE G := fun ρ g ex Q => t ρ g ex fun d g' => oFld cs f d fun r => Q r g'
theorem et_fld {f : Str} (cs : List Str) (hf : ∀ cn ∈ cs, FieldOk c.b.K cn f) (he : PEt c s X e t) (hb : attributeBase e f X.env (eval e X.env) = eval e X.env := by rfl) : PEt c .r X (.Attribute e f pos) (tFldT cs f t) :=
  ⟨fun ρ g ex Q Q' w q => he.mono _ _ _ _ _ (fun d g' q => by
    cases d <;> first | exact q.elim | (obtain ⟨d, h, q⟩ := q; exact ⟨d, h, w _ _ q⟩)) q,
   fun ex ok => PE.weak (pe_fld (he.run ex ok) hb) fun σ H Q ⟨N, ρ, g, R, q⟩ => ⟨N, ρ, g, R, he.mono _ _ _ _ _ (fun d g1 q x H1 R1 t1 k1 r1 => by
    cases d with
    | obj cn ns ds =>
      obtain ⟨d, ⟨hcn, hl⟩, q⟩ := q
      obtain ⟨p, dx, fs, e', gm, nn, hp, hn, rs⟩ := r1.tob
      obtain ⟨v, lv, rv⟩ := Reps.lookup hn rs hl
      exact ⟨p, _, dx, fs, v, e', hp, ok.hK ▸ (hf _ hcn).1, ok.hK ▸ (hf _ hcn).2, lv, q v H1 R1 t1 k1 rv⟩
    | sel ax cn ns ds =>
      obtain ⟨d, ⟨hcn, hl⟩, q⟩ := q
      obtain ⟨p, dx, fs, e', gm, hp, hn, rs⟩ := r1.tob
      obtain ⟨v, lv, rv⟩ := Reps.lookup hn.2 rs hl
      exact ⟨p, _, dx, fs, v, e', hp, ok.hK ▸ (hf _ hcn).1, ok.hK ▸ (hf _ hcn).2, lv, q v H1 R1 t1 k1 rv⟩
    | _ => exact q.elim) q⟩⟩

/-! ### sep.join(xs) -/
@[simp] def oJoin (z : Str) : D → (D → Prop) → Prop
  | .lst ds, Q => ∃ ys : List Str, (ds = ys.map D.str ∧ (ys.map (·.length)).sum + ys.length * z.length ≤ 16777216) ∧ Q (.str (Txt.join z ys))
  | .tup ds, Q => ∃ ys : List Str, (ds = ys.map D.str ∧ (ys.map (·.length)).sum + ys.length * z.length ≤ 16777216) ∧ Q (.str (Txt.join z ys))
  | _, _ => False
@[simp] def tJoinT {G : Type} (ta tb : TTE G) : TTE G := fun ρ g ex Q => ta ρ g ex fun d g1 => ∃ z, d = .str z ∧ tb ρ g1 ex fun y g2 => oJoin z y fun d => Q d g2
theorem et_join {apos : Pos} {s1 s2 : S} (ha : PEt c s1 X a ta) (hb : PEt c s2 X b' tb) (hs : starEach [b'] X.env = [(false, eval b' X.env)] := by rfl) (hbase : attributeBase a "join" X.env (eval a X.env) = eval a X.env := by rfl) (hline : (apos.endLine == pos.line) = true := by rfl) :
    PEt c .f X (.Call (.Attribute a "join" apos) [b'] [] pos) (tJoinT ta tb) :=
  ⟨fun ρ g ex Q Q' w q => ha.mono _ _ _ _ _ (fun x g1 ⟨z, e, q⟩ => ⟨z, e, hb.mono _ _ _ _ _ (fun y g2 q => by
    cases y <;> first | exact q.elim | (obtain ⟨ys, h, q⟩ := q; exact ⟨ys, h, w _ _ q⟩)) q⟩) q,
   fun ex ok => PE.weak (pe_join (ha.run ex ok) (hb.run ex ok) hs hbase hline) fun σ H Q ⟨N, ρ, g, R, q⟩ => by
    refine ⟨N, ρ, g, R, ha.mono _ _ _ _ _ (fun d1 g1 ⟨z, e, q⟩ x H1 R1 t1 k1 r1 => ?_) q⟩
    subst e
    have ex1 : x = .str z := r1.tob
    subst ex1
    refine ⟨⟨z, rfl⟩, N, ρ, g1, R1, hb.mono _ _ _ _ _ (fun d2 g2 q y H2 R2 t2 k2 r2 => ?_) q⟩
    have t3 : ∀ a, H a ≠ none → H2 a ≠ none := fun a z => t2 a (t1 a z)
    cases d2 with
    | lst ds =>
      obtain ⟨ys, ⟨e1, hl⟩, q⟩ := q
      obtain ⟨p, vs, e', gm, sq, rs⟩ := r2.tob
      subst e1 e'
      rw [reps_strs rs] at sq
      exact ⟨z, p, ys, rfl, rfl, .inl (SqL.of sq), hl, q _ H2 R2 t3 (k1.trans k2) ⟨rfl, fun z => by cases z⟩⟩
    | tup ds =>
      obtain ⟨ys, ⟨e1, hl⟩, q⟩ := q
      obtain ⟨p, vs, e', gm, sq, rs⟩ := r2.tob
      subst e1 e'
      rw [reps_strs rs] at sq
      exact ⟨z, p, ys, rfl, rfl, .inr (ok.hK ▸ sq), hl, q _ H2 R2 t3 (k1.trans k2) ⟨rfl, fun z => by cases z⟩⟩
    | _ => exact q.elim⟩
end
end TL
set_option Elab.async false
set_option linter.all false
set_option maxRecDepth 100000
set_option maxHeartbeats 2000000
/-! TL5: statements over trees. -/
namespace TL
open PySem PySem.Spec PyProof.Rows L2

structure TEnds (G : Type) where
  nx : Rho → G → Prop
  rt : D → G → Prop
  bk : Rho → G → Prop := fun _ _ => False
  ct : Rho → G → Prop := fun _ _ => False
abbrev TTS (G : Type) := TEnds G → TX G → Rho → G → Prop

theorem RepB.less {b : B} {N N' : Addr → Prop} {H : Hp} {d : D} {v : V} (h : RepB b N H d v) (hN : ∀ a, N' a → N a) : RepB b N' H d v := by
  cases d with
  | lst ds => obtain ⟨p, vs, e, g, q, r⟩ := h; exact ⟨p, vs, e, g, q, r.stay Stay.refl fun a z => .inl (hN a z)⟩
  | sel ax c ns ds => obtain ⟨p, dx, fs, e, g, q, f, r⟩ := h; exact ⟨p, dx, fs, e, g, q, f, r.stay Stay.refl fun a z => .inl (hN a z)⟩
  | dct w kd ds => obtain ⟨p, es, e, g, q, f, r1, r2⟩ := h; exact ⟨p, es, e, g, q, f, r1.stay Stay.refl fun a z => .inl (hN a z), r2.stay Stay.refl fun a z => .inl (hN a z)⟩
  | _ => exact Rep.stay (d := _) Stay.refl (fun a z => .inl (hN a z)) h
/-- what a def hands back -/
def RepRt (c : C) (H : Hp) (d : D) (v : V) : Prop := Rep c.b c.N0 H d v ∧ (d.top = true → ∃ p, v = .ref p ∧ c.H0 p = none ∧ RepB c.b (fun a => c.N0 a ∨ a = p) H d v)
structure Fits (c : C) (TD : TEnds c.b.G) (D : Ends) : Prop where
  nx : ∀ N ρ g σ H, Rn c N ρ g σ H → TD.nx ρ g → D.nx σ H
  bk : ∀ N ρ g σ H, Rn c N ρ g σ H → TD.bk ρ g → D.bk σ H
  ct : ∀ N ρ g σ H, Rn c N ρ g σ H → TD.ct ρ g → D.ct σ H
  rt : ∀ N ρ g σ H d v, Rn c N ρ g σ H → RepRt c H d v → TD.rt d g → D.rt v H
def liftS (c : C) (t : TTS c.b.G) (ex : TX c.b.G) : TS := fun D σ H => ∃ N ρ g TD, Rn c N ρ g σ H ∧ t TD ex ρ g ∧ Fits c TD D
structure PSt (c : C) (X : Cx) (st : Stmt) (t : TTS c.b.G) : Prop where
  run : ∀ ex, XOk X c ex → PS X st (liftS c t ex)
structure PSst (c : C) (X : Cx) (st : List Stmt) (t : TTS c.b.G) : Prop where
  run : ∀ ex, XOk X c ex → PSs X st (liftS c t ex)
theorem PS.weak {X : Cx} {e : Stmt} {t t' : TS} (h : PS X e t) (w : ∀ D σ H, t' D σ H → t D σ H) : PS X e t' := ⟨fun pins s σ H Q I q => h.run pins s σ H Q I (w _ _ _ q)⟩
theorem PSs.weak {X : Cx} {e : List Stmt} {t t' : TS} (h : PSs X e t) (w : ∀ D σ H, t' D σ H → t D σ H) : PSs X e t' := ⟨fun pins s σ H Q I q => h.run pins s σ H Q I (w _ _ _ q)⟩

section
variable {c : C} {X : Cx} {s : S} {e a b' : Expr} {t ta tb : TTE c.b.G} {pos : Pos} {st : Stmt} {rest : List Stmt} {u u1 u2 : TTS c.b.G}

/-! ### blocks -/
@[simp] def tNextT {G : Type} : TTS G := fun TD _ ρ g => TD.nx ρ g
@[simp] def tSeqT {G : Type} (t u : TTS G) : TTS G := fun TD ex ρ g => t { TD with nx := u TD ex } ex ρ g
theorem ss_nil : PSst c X [] tNextT := ⟨fun ex ok => PSs.weak pss_nil fun D σ H ⟨N, ρ, g, TD, R, q, F⟩ => F.nx _ _ _ _ _ R q⟩
theorem ss_cons (h1 : PSt c X st u1) (h2 : PSst c X rest u2) : PSst c X (st :: rest) (tSeqT u1 u2) :=
  ⟨fun ex ok => PSs.weak (pss_cons (h1.run ex ok) (h2.run ex ok)) fun D σ H ⟨N, ρ, g, TD, R, q, F⟩ =>
    ⟨N, ρ, g, _, R, q, ⟨fun N ρ g σ H R q => ⟨N, ρ, g, TD, R, q, F⟩, F.bk, F.ct, F.rt⟩⟩⟩
theorem ss_one (h1 : PSt c X st u1) : PSst c X [st] u1 := ⟨fun ex ok => pss_one (h1.run ex ok)⟩
theorem st_pass : PSt c X (.Pass pos) tNextT := ⟨fun ex ok => PS.weak ps_pass fun D σ H ⟨N, ρ, g, TD, R, q, F⟩ => F.nx _ _ _ _ _ R q⟩
@[simp] def tBreakT {G : Type} : TTS G := fun TD _ ρ g => TD.bk ρ g
@[simp] def tContT {G : Type} : TTS G := fun TD _ ρ g => TD.ct ρ g
theorem st_break : PSt c X (.Break pos) tBreakT := ⟨fun ex ok => PS.weak ps_break fun D σ H ⟨N, ρ, g, TD, R, q, F⟩ => F.bk _ _ _ _ _ R q⟩
theorem st_cont : PSt c X (.Continue pos) tContT := ⟨fun ex ok => PS.weak ps_continue fun D σ H ⟨N, ρ, g, TD, R, q, F⟩ => F.ct _ _ _ _ _ R q⟩
@[simp] def tDropT {G : Type} (t : TTE G) : TTS G := fun TD ex ρ g => t ρ g ex fun _ g' => TD.nx ρ g'
theorem st_expr (h : PEt c s X e t) (hs : swapsWith e none pos.line X.env = pure false := by rfl) : PSt c X (.Expr e pos) (tDropT t) :=
  ⟨fun ex ok => PS.weak (ps_expr (h.run ex ok) hs) fun D σ H ⟨N, ρ, g, TD, R, q, F⟩ => ⟨N, ρ, g, R, h.mono _ _ _ _ _ (fun d g' q v H' R' th k r => F.nx _ _ _ _ _ R' q) q⟩⟩
@[simp] def tIfT {G : Type} (c : TTB G) (t u : TTS G) : TTS G := fun TD ex ρ g => c ρ g ex fun k g' => if k = true then t TD ex ρ g' else u TD ex ρ g'
theorem st_if {ce : Expr} {tc : TTB c.b.G} {xs ys : List Stmt} (hc : PBt c X ce tc) (ha : PSst c X xs u1) (hb : PSst c X ys u2) : PSt c X (.If ce xs ys pos) (tIfT tc u1 u2) :=
  ⟨fun ex ok => PS.weak (ps_if (hc.run ex ok) (ha.run ex ok) (hb.run ex ok)) fun D σ H ⟨N, ρ, g, TD, R, q, F⟩ => ⟨N, ρ, g, R, hc.mono _ _ _ _ _ (fun k g' q H' R' th kp => by
    cases k with
    | true => rw [if_pos rfl] at q ⊢; exact ⟨N, ρ, g', TD, R', q, F⟩
    | false => rw [if_neg Bool.false_ne_true] at q ⊢; exact ⟨N, ρ, g', TD, R', q, F⟩) q⟩⟩
/-! ### return -/
theorem repRt_of {N : Addr → Prop} {ρ : Rho} {g : c.b.G} {σ : L2.St} {H H' : Hp} {d : D} {v : V} (R : Rn c N ρ g σ H) (r : RepS .f c.b N H H' d v) (hN : ∀ a, c.N0 a → N a) (hf : ∀ a, c.Fr a → N a) : RepRt c H' d v :=
  ⟨r.1.stay (N' := c.N0) (Stay.refl) fun a z => .inl (hN a z), fun t => by
    obtain ⟨p, e, z, rb⟩ := r.2 t
    refine ⟨p, e, ?_, rb.less fun a w => w.imp (hN a) id⟩
    cases q : c.H0 p with
    | none => rfl
    | some o =>
      have hg := (R.fresh z).1
      have hn := (R.fresh z).2
      rw [R.keep p o q hg fun w => hn (hf p w)] at z
      cases z⟩
@[simp] def tRetT {G : Type} (t : TTE G) : TTS G := fun TD ex ρ g => t ρ g ex TD.rt
theorem st_ret (h : PEt c .f X e t) (hf : ∀ a, ¬ c.Fr a := by exact fun _ z => z) : PSt c X (.Return (some e) pos) (tRetT t) :=
  ⟨fun ex ok => PS.weak (ps_ret (h.run ex ok)) fun D σ H ⟨N, ρ, g, TD, R, q, F⟩ => ⟨N, ρ, g, R, h.mono _ _ _ _ _ (fun d g' q v H' R' th k r => F.rt _ _ _ _ _ _ _ R' (repRt_of R r R.n0 fun a z => absurd z (hf a)) q) q⟩⟩
/-- return x, x one's own -/
@[simp] def tRetV {G : Type} (i : Nat) : TTS G := fun TD ex ρ g => ∃ d, ρ[i]? = some (some d) ∧ TD.rt d g
theorem st_retv (i : Nat) {x : Str} {p : Pos} (hM : i ∈ c.M) (hfr : ∀ a, ¬ c.Fr a := by exact fun _ z => z) (hn0 : ∀ a, c.N0 a → c.H0 a ≠ none) (hN : X.N[i]? = some x := by rfl) (hv : Vis X.env.scope x := by first | exact Or.inl rfl | exact Or.inr (Or.inl rfl) | exact Or.inr (Or.inr rfl)) (hd : (x == ("__debug__" : Str)) = false := by decide)
    (hcd : (x == ("__classdict__" : Str)) = false := by decide) : PSt c X (.Return (some (.Name x p)) pos) (tRetV i) :=
  ⟨fun ex ok => PS.weak (ps_ret (pe_var hN hv hd hcd)) fun D σ H ⟨N, ρ, g, TD, R, ⟨d, e, q⟩, F⟩ => by
    obtain ⟨v, h1, h2⟩ := R.slot i d e
    refine ⟨v, h1, F.rt _ _ _ _ _ d v R ?_ q⟩
    cases ht : d.top with
    | false => exact ⟨(h2.of ht).stay (N' := c.N0) Stay.refl fun a z => .inl (R.n0 a z), fun z => by rw [ht] at z; cases z⟩
    | true =>
      obtain ⟨p, h3, h4, h5, h6⟩ := R.own i hM d e ht
      rw [h1] at h3
      injection h3 with h3
      injection h3 with h3
      have h4' : c.H0 p = none := h4.resolve_right (hfr p)
      refine ⟨?_, fun _ => ⟨p, h3, h4', h2.less fun a w => w.elim (R.n0 a) fun w => w ▸ h5⟩⟩
      have nn : ¬ c.N0 p := fun z => hn0 p z h4'
      cases d with
      | lst ds =>
        obtain ⟨p', vs, e1, g1, q1, r1⟩ := h2
        rw [h3] at e1
        injection e1 with e1
        subst e1
        exact ⟨p, vs, h3, g1, nn, q1, r1.stay (N' := c.N0) Stay.refl fun a z => .inl (R.n0 a z)⟩
      | sel ax cn ns ds =>
        obtain ⟨p', dx, fs, e1, g1, q1, f1, r1⟩ := h2
        rw [h3] at e1
        injection e1 with e1
        subst e1
        exact ⟨p, dx, fs, h3, g1, nn, q1, f1, r1.stay (N' := c.N0) Stay.refl fun a z => .inl (R.n0 a z)⟩
      | dct w kd ds =>
        obtain ⟨p', es, e1, g1, q1, f1, r1, r2⟩ := h2
        rw [h3] at e1
        injection e1 with e1
        subst e1
        exact ⟨p, es, h3, g1, nn, q1, f1, r1.stay (N' := c.N0) Stay.refl fun a z => .inl (R.n0 a z), r2.stay (N' := c.N0) Stay.refl fun a z => .inl (R.n0 a z)⟩
      | _ => cases ht⟩
@[simp] def tRetNT {G : Type} : TTS G := fun TD _ _ g => TD.rt .non g
theorem st_retN : PSt c X (.Return none pos) tRetNT := ⟨fun ex ok => PS.weak ps_retN fun D σ H ⟨N, ρ, g, TD, R, q, F⟩ => F.rt _ _ _ _ _ .non .non R ⟨rfl, fun z => by cases z⟩ q⟩

/-! ### slots stored -/
theorem get_set {α : Type} {l : List α} {i j : Nat} {x y : α} (h : (l.set i x)[j]? = some y) : (j = i ∧ y = x) ∨ (j ≠ i ∧ l[j]? = some y) := by
  by_cases hj : j = i
  · subst hj
    by_cases hl : j < l.length
    · rw [List.getElem?_set_self hl] at h; injection h with h; exact .inl ⟨rfl, h.symm⟩
    · rw [List.getElem?_eq_none (by simpa using hl)] at h; cases h
  · rw [List.getElem?_set_ne (Ne.symm hj)] at h; exact .inr ⟨hj, h⟩
theorem set_get {α : Type} {l : List α} {i : Nat} {x : α} (h : i < l.length) : (l.set i x)[i]? = some x := List.getElem?_set_self h
/-- a value that may be kept, into a slot that is not one's own -/
theorem Rn.set {N : Addr → Prop} {ρ : Rho} {g : c.b.G} {σ : L2.St} {H : Hp} {i : Nat} {d : D} {v : V} (R : Rn c N ρ g σ H) (r : Rep c.b N H d v) (hi : i ∉ c.M) (hz : i ∉ c.zk) : Rn c N (ρ.set i (some d)) g (σ.set i (some v)) H := by
  refine ⟨R.gh, R.keep, R.n0, R.ng, R.nt, by rw [List.length_set, List.length_set]; exact R.len, fun j d' e => ?_, fun j hj d' e ht => ?_, fun z hzz => ?_, fun z hzz => ?_⟩
  · rcases get_set e with ⟨e1, e2⟩ | ⟨e1, e2⟩
    · subst e1
      injection e2 with e2
      subst e2
      have hl : j < ρ.length := by
        have := (List.getElem?_eq_some_iff.mp e).1
        simpa using this
      exact ⟨v, set_get (by rw [R.len]; exact hl), r.toB⟩
    · obtain ⟨u, h1, h2⟩ := R.slot j d' e2
      exact ⟨u, by rw [List.getElem?_set_ne (Ne.symm e1)]; exact h1, h2⟩
  · rcases get_set e with ⟨e1, e2⟩ | ⟨e1, e2⟩
    · exact absurd hj (e1 ▸ hi)
    · obtain ⟨p, h1, h2, h3, h4⟩ := R.own j hj d' e2 ht
      refine ⟨p, by rw [List.getElem?_set_ne (Ne.symm e1)]; exact h1, h2, h3, fun k d2 hk ek tk z => ?_⟩
      rcases get_set ek with ⟨e3, e4⟩ | ⟨e3, e4⟩
      · rcases get_set z with ⟨_, z2⟩ | ⟨z1, _⟩
        · injection e4 with e4
          injection z2 with z2
          subst e4 z2
          cases d2 with
          | lst ds =>
            obtain ⟨p', vs, e5, _, n5, _⟩ := r
            injection e5 with e5
            exact n5 (e5 ▸ h3)
          | sel ax cn ns ds =>
            obtain ⟨p', dx, fs, e5, _, n5, _⟩ := r
            injection e5 with e5
            exact n5 (e5 ▸ h3)
          | dct w kd ds =>
            obtain ⟨p', es, e5, _, n5, _⟩ := r
            injection e5 with e5
            exact n5 (e5 ▸ h3)
          | _ => cases tk
        · exact z1 e3
      · rw [List.getElem?_set_ne (Ne.symm e3)] at z
        exact h4 k d2 hk e4 tk z
  · have h0 := c.hZ z hzz
    obtain ⟨h1, h2⟩ := R.frz z hzz
    have hne : i ≠ z.1 := fun q => hz (q ▸ h0)
    exact ⟨by rw [List.getElem?_set_ne hne]; exact h1, by rw [List.getElem?_set_ne hne]; exact h2⟩
  · exact R.pin z hzz
/-- what nobody else holds, into one's own slot -/
theorem Rn.setOwn {N : Addr → Prop} {ρ : Rho} {g g' : c.b.G} {σ : L2.St} {H H' : Hp} {i : Nat} {d : D} {v : V} (R : Rn c N ρ g σ H) (R' : Rn c N ρ g' σ H') (k : Keep c.b H H') (th : ∀ a, H a ≠ none → H' a ≠ none) (r : RepS .f c.b N H H' d v) (hz : i ∉ c.zk) :
    ∃ N', Rn c N' (ρ.set i (some d)) g' (σ.set i (some v)) H' := by
  cases ht : d.top with
  | false =>
    refine ⟨N, R'.gh, R'.keep, R'.n0, R'.ng, R'.nt, by rw [List.length_set, List.length_set]; exact R.len, fun j d' e => ?_, fun j hj d' e ht' => ?_, fun z hzz => ?_, fun z hzz => ?_⟩
    · rcases get_set e with ⟨e1, e2⟩ | ⟨e1, e2⟩
      · subst e1
        injection e2 with e2
        subst e2
        have hl : j < ρ.length := by
          have := (List.getElem?_eq_some_iff.mp e).1
          simpa using this
        exact ⟨v, set_get (by rw [R.len]; exact hl), r.1.toB⟩
      · obtain ⟨u, h1, h2⟩ := R'.slot j d' e2
        exact ⟨u, by rw [List.getElem?_set_ne (Ne.symm e1)]; exact h1, h2⟩
    · rcases get_set e with ⟨e1, e2⟩ | ⟨e1, e2⟩
      · injection e2 with e2
        subst e2
        rw [ht] at ht'
        cases ht'
      · obtain ⟨p, h1, h2, h3, h4⟩ := R'.own j hj d' e2 ht'
        refine ⟨p, by rw [List.getElem?_set_ne (Ne.symm e1)]; exact h1, h2, h3, fun k d2 hk ek tk z => ?_⟩
        rcases get_set ek with ⟨e3, e4⟩ | ⟨e3, e4⟩
        · injection e4 with e4
          subst e4
          rw [ht] at tk
          cases tk
        · rw [List.getElem?_set_ne (Ne.symm e3)] at z
          exact h4 k d2 hk e4 tk z
    · obtain ⟨h1, h2⟩ := R'.frz z hzz
      have h0 := c.hZ z hzz
      have hne : i ≠ z.1 := fun q => hz (q ▸ h0)
      exact ⟨by rw [List.getElem?_set_ne hne]; exact h1, by rw [List.getElem?_set_ne hne]; exact h2⟩
    · exact R'.pin z hzz
  | true =>
    obtain ⟨p, ev, hp, rB⟩ := r.2 ht
    subst ev
    have hp' : H' p ≠ none := by
      cases d with
      | lst ds => obtain ⟨p', vs, e5, _, q5, _⟩ := rB; injection e5 with e5; subst e5; rw [q5]; exact fun z => by cases z
      | sel ax cn ns ds => obtain ⟨p', dx, fs, e5, _, q5, _⟩ := rB; injection e5 with e5; subst e5; rw [q5]; exact fun z => by cases z
      | dct w kd ds => obtain ⟨p', es, e5, _, q5, _⟩ := rB; injection e5 with e5; subst e5; rw [q5]; exact fun z => by cases z
      | _ => cases ht
    have kn : ∀ a, (N a ∨ a = p) → N a ∨ H a = none := fun a z => z.imp id fun z => by rw [z]; exact hp
    have trB : ∀ {d' : D} {u : V}, RepB c.b N H d' u → RepB c.b (fun a => N a ∨ a = p) H' d' u := fun {d' u} h => by
      cases d' with
      | lst ds => obtain ⟨p', vs, e5, g5, q5, r5⟩ := h; exact ⟨p', vs, e5, g5, k _ _ q5 g5, r5.stay k.stay kn⟩
      | sel ax cn ns ds => obtain ⟨p', dx, fs, e5, g5, q5, f5, r5⟩ := h; exact ⟨p', dx, fs, e5, g5, k _ _ q5 g5, f5, r5.stay k.stay kn⟩
      | dct w kd ds => obtain ⟨p', es, e5, g5, q5, f5, r5, r6⟩ := h; exact ⟨p', es, e5, g5, k _ _ q5 g5, f5, r5.stay k.stay kn, r6.stay k.stay kn⟩
      | _ => exact Rep.stay (d := _) k.stay kn h
    -- no slot holds p: it is new
    have noP : ∀ (j : Nat) d', ρ[j]? = some (some d') → d'.top = true → σ[j]? ≠ some (some (.ref p)) := fun j d' e tk z => by
      obtain ⟨u, h1, h2⟩ := R.slot j d' e
      rw [z] at h1
      injection h1 with h1
      injection h1 with h1
      subst h1
      cases d' with
      | lst ds => obtain ⟨p', vs, e5, _, q5, _⟩ := h2; injection e5 with e5; subst e5; rw [q5] at hp; cases hp
      | sel ax cn ns ds => obtain ⟨p', dx, fs, e5, _, q5, _⟩ := h2; injection e5 with e5; subst e5; rw [q5] at hp; cases hp
      | dct w kd ds => obtain ⟨p', es, e5, _, q5, _⟩ := h2; injection e5 with e5; subst e5; rw [q5] at hp; cases hp
      | _ => cases tk
    have fresh0 : c.H0 p = none ∨ c.Fr p := by
      cases q : c.H0 p with
      | none => exact .inl rfl
      | some o =>
        refine .inr (Classical.byContradiction fun w => ?_)
        rw [R.keep p o q (R.fresh hp).1 w] at hp
        cases hp
    refine ⟨fun a => N a ∨ a = p, R'.gh, R'.keep, fun a z => .inl (R'.n0 a z), fun a z => .inl (R'.ng a z), fun a z => z.elim (R'.nt a) (fun z => z ▸ hp'), by rw [List.length_set, List.length_set]; exact R.len, fun j d' e => ?_, fun j hj d' e ht' => ?_, fun z hzz => ?_, fun z hzz => ?_⟩
    · rcases get_set e with ⟨e1, e2⟩ | ⟨e1, e2⟩
      · subst e1
        injection e2 with e2
        subst e2
        have hl : j < ρ.length := by
          have := (List.getElem?_eq_some_iff.mp e).1
          simpa using this
        exact ⟨.ref p, set_get (by rw [R.len]; exact hl), rB⟩
      · obtain ⟨u, h1, h2⟩ := R.slot j d' e2
        exact ⟨u, by rw [List.getElem?_set_ne (Ne.symm e1)]; exact h1, trB h2⟩
    · rcases get_set e with ⟨e1, e2⟩ | ⟨e1, e2⟩
      · subst e1
        have hl : j < ρ.length := by
          have := (List.getElem?_eq_some_iff.mp e).1
          simpa using this
        refine ⟨p, set_get (by rw [R.len]; exact hl), fresh0, .inr rfl, fun k2 d2 hk ek tk z => ?_⟩
        rcases get_set ek with ⟨e3, e4⟩ | ⟨e3, e4⟩
        · exact hk e3
        · rw [List.getElem?_set_ne (Ne.symm e3)] at z
          exact noP k2 d2 e4 tk z
      · obtain ⟨p2, h1, h2, h3, h4⟩ := R.own j hj d' e2 ht'
        refine ⟨p2, by rw [List.getElem?_set_ne (Ne.symm e1)]; exact h1, h2, .inl h3, fun k2 d2 hk ek tk z => ?_⟩
        rcases get_set ek with ⟨e3, e4⟩ | ⟨e3, e4⟩
        · rcases get_set z with ⟨_, z2⟩ | ⟨z1, _⟩
          · injection z2 with z2
            injection z2 with z2
            subst z2
            exact R.nt _ h3 hp
          · exact z1 e3
        · rw [List.getElem?_set_ne (Ne.symm e3)] at z
          exact h4 k2 d2 hk e4 tk z
    · have h0 := c.hZ z hzz
      obtain ⟨h1, h2⟩ := R.frz z hzz
      have hne : i ≠ z.1 := fun q => hz (q ▸ h0)
      exact ⟨by rw [List.getElem?_set_ne hne]; exact h1, by rw [List.getElem?_set_ne hne]; exact h2⟩
    · exact (R.pin z hzz).stay k.stay kn

/-! ### x = e -/
@[simp] def tSetT {G : Type} (i : Nat) (t : TTE G) : TTS G := fun TD ex ρ g => t ρ g ex fun d g' => TD.nx (ρ.set i (some d)) g'
theorem st_set (i : Nat) {x : Str} {pos' : Pos} (he : PEt c .r X e t) (hM : c.M.contains i = false := by rfl) (hz : c.zk.contains i = false := by rfl) (hN : X.N.Nodup := by assumption) (hi : X.N[i]? = some x := by rfl) (hx : Loc X.env.scope x := by first | exact Or.inl rfl | exact Or.inr rfl)
    (hs : swapsWith e (some (.Name x pos')) pos.line X.env = pure false := by rfl) (hf : X.fn x = true ∨ X.env.scope.names.lookup x = some .local := by first | exact .inl rfl | exact .inr rfl | assumption) : PSt c X (.Assign [.Name x pos'] e pos) (tSetT i t) :=
  ⟨fun ex ok => PS.weak (ps_set hN hi hx (he.run ex ok) hs hf) fun D σ H ⟨N, ρ, g, TD, R, q, F⟩ => ⟨N, ρ, g, R, he.mono _ _ _ _ _ (fun d g' q v H' R' th k r => F.nx _ _ _ _ _ (R'.set r (by simpa using hM) (by simpa using hz)) q) q⟩⟩
theorem st_own (i : Nat) {x : Str} {pos' : Pos} (he : PEt c .f X e t) (hz : c.zk.contains i = false := by rfl) (hN : X.N.Nodup := by assumption) (hi : X.N[i]? = some x := by rfl) (hx : Loc X.env.scope x := by first | exact Or.inl rfl | exact Or.inr rfl)
    (hs : swapsWith e (some (.Name x pos')) pos.line X.env = pure false := by rfl) (hf : X.fn x = true ∨ X.env.scope.names.lookup x = some .local := by first | exact .inl rfl | exact .inr rfl | assumption) : PSt c X (.Assign [.Name x pos'] e pos) (tSetT i t) :=
  ⟨fun ex ok => PS.weak (ps_set hN hi hx (he.run ex ok) hs hf) fun D σ H ⟨N, ρ, g, TD, R, q, F⟩ => ⟨N, ρ, g, R, he.mono _ _ _ _ _ (fun d g' q v H' R' th k r => by
    obtain ⟨N', R2⟩ := R.setOwn R' k th r (i := i) (by simpa using hz)
    exact F.nx _ _ _ _ _ R2 q) q⟩⟩

/-! ### targets -/
theorem wipe_at {σ : L2.St} {i : Nat} : ∀ {vs : List Nat}, i ∈ vs → (wipe σ vs)[i]? = if i < σ.length then some none else none
  | v :: vs, h => by
    unfold wipe
    by_cases hi : i = v
    · subst hi
      by_cases hl : i < σ.length
      · rw [List.getElem?_set_self (by rw [wipe_length]; exact hl), if_pos hl]
      · rw [if_neg hl, List.getElem?_eq_none (by rw [List.length_set, wipe_length]; omega)]
    · rw [List.getElem?_set_ne (Ne.symm hi)]
      exact wipe_at ((List.mem_cons.mp h).resolve_left hi)
theorem wipe_set {σ : L2.St} {i : Nat} {x : Option V} {vs : List Nat} (h : i ∈ vs) : wipe (σ.set i x) vs = wipe σ vs := by
  refine List.ext_getElem? fun j => ?_
  by_cases hj : j ∈ vs
  · rw [wipe_at hj, wipe_at hj, List.length_set]
  · rw [wipe_out hj, wipe_out hj, List.getElem?_set_ne (fun e : i = j => hj (by rw [← e]; exact h))]
theorem wipe_wipe (σ : L2.St) (vs : List Nat) : wipe (wipe σ vs) vs = wipe σ vs := by
  refine List.ext_getElem? fun j => ?_
  by_cases hj : j ∈ vs
  · rw [wipe_at hj, wipe_at hj, wipe_length]
  · rw [wipe_out hj]
abbrev TTG := D → Rho → (Rho → Prop) → Prop
abbrev TTGs := List D → Rho → (Rho → Prop) → Prop
def liftG (c : C) (vs : List Nat) (gt : TTG) : TG := fun v σ H Q => ∃ N ρ g d, Rn c N ρ g σ H ∧ Rep c.b N H d v ∧ gt d ρ fun ρ' => ∀ σ', Rn c N ρ' g σ' H → wipe σ' vs = wipe σ vs → Q σ' H
def liftGs (c : C) (vs : List Nat) (gt : TTGs) : TGs := fun us σ H Q => ∃ N ρ g ds, Rn c N ρ g σ H ∧ Reps c.b N H ds us ∧ gt ds ρ fun ρ' => ∀ σ', Rn c N ρ' g σ' H → wipe σ' vs = wipe σ vs → Q σ' H
/-- vs: the slots that it may store -/
structure PGt (c : C) (X : Cx) (vs : List Nat) (tg : Expr) (gt : TTG) : Prop where
  mono : ∀ d ρ Q Q', (∀ ρ, Q ρ → Q' ρ) → gt d ρ Q → gt d ρ Q'
  run : X.K = c.b.K → PG X tg (liftG c vs gt)
structure PGst (c : C) (X : Cx) (vs : List Nat) (tg : List Expr) (gt : TTGs) : Prop where
  mono : ∀ d ρ Q Q', (∀ ρ, Q ρ → Q' ρ) → gt d ρ Q → gt d ρ Q'
  run : X.K = c.b.K → PGs X tg (liftGs c vs gt)
theorem PG.weak {tg : Expr} {g g' : TG} (h : PG X tg g) (w : ∀ v σ H Q, g' v σ H Q → g v σ H Q) : PG X tg g' := ⟨fun pins s σ H v u Q I r q => h.run pins s σ H v u Q I r (w _ _ _ _ q)⟩
theorem PGs.weak {tg : List Expr} {g g' : TGs} (h : PGs X tg g) (w : ∀ v σ H Q, g' v σ H Q → g v σ H Q) : PGs X tg g' := ⟨fun pins s σ H v u Q I r q => h.run pins s σ H v u Q I r (w _ _ _ _ q)⟩
variable {vs : List Nat}
@[simp] def gNameT (i : Nat) : TTG := fun d ρ Q => Q (ρ.set i (some d))
theorem gt_name (i : Nat) {x : Str} (hv : vs.contains i = true := by rfl) (hM : c.M.contains i = false := by rfl) (hz : c.zk.contains i = false := by rfl) (hN : X.N.Nodup := by assumption) (hi : X.N[i]? = some x := by rfl) (hx : Loc X.env.scope x := by first | exact Or.inl rfl | exact Or.inr rfl)
    (hf : X.fn x = true ∨ X.env.scope.names.lookup x = some .local := by first | exact .inl rfl | exact .inr rfl | assumption) : PGt c X vs (.Name x pos) (gNameT i) :=
  ⟨fun d ρ Q Q' w q => w _ q, fun hK => PG.weak (pg_name hN hi hx hf) fun v σ H Q ⟨N, ρ, g, d, R, r, q⟩ => q _ (R.set r (by simpa using hM) (by simpa using hz)) (wipe_set (by simpa using hv))⟩
@[simp] def gNilT : TTGs := fun ds ρ Q => ds = [] ∧ Q ρ
@[simp] def gConsT (t : TTG) (u : TTGs) : TTGs := fun ds ρ Q => ∃ d r, ds = d :: r ∧ t d ρ fun ρ' => u r ρ' Q
theorem gt_nil : PGst c X vs [] gNilT := ⟨fun d ρ Q Q' w q => ⟨q.1, w _ q.2⟩, fun hK => PGs.weak pgs_nil fun us σ H Q ⟨N, ρ, g, ds, R, r, e, q⟩ => by
  subst e
  exact ⟨r, q σ R rfl⟩⟩
theorem gt_cons {tg : Expr} {tgs : List Expr} {t1 : TTG} {t2 : TTGs} (h1 : PGt c X vs tg t1) (h2 : PGst c X vs tgs t2) (hs : (assignEach (tg :: tgs) X.env).map (·.2) = assign tg X.env :: (assignEach tgs X.env).map (·.2) := by rfl) : PGst c X vs (tg :: tgs) (gConsT t1 t2) :=
  ⟨fun ds ρ Q Q' w ⟨d, r, e, q⟩ => ⟨d, r, e, h1.mono _ _ _ _ (fun ρ q => h2.mono _ _ _ _ w q) q⟩,
   fun hK => PGs.weak (pgs_cons (h1.run hK) (h2.run hK) hs) fun us σ H Q ⟨N, ρ, g, ds, R, r, d, ds', e, q⟩ => by
    subst e
    obtain ⟨v, vr, ev, rv, rr⟩ := r
    exact ⟨v, vr, ev, N, ρ, g, d, R, rv, h1.mono _ _ _ _ (fun ρ' q σ' R' w1 => ⟨N, ρ', g, ds', R', rr, h2.mono _ _ _ _ (fun ρ2 q σ2 R2 w2 => q σ2 R2 (w2.trans w1)) q⟩) q⟩⟩
@[simp] def gTupT (n : Nat) (t : TTGs) : TTG := fun d ρ Q => ∃ ds, d = .tup ds ∧ ds.length = n ∧ t ds ρ Q
theorem gt_tup {tgs : List Expr} {k : Nat} {t1 : TTGs} {n : Nat} (h : PGst c X vs tgs t1) (hc : X.calm = true := by rfl) (hn : (assignEach tgs X.env).length = n := by rfl) (hst : (assignEach tgs X.env).findIdx? (·.1) = none := by rfl) : PGt c X vs (.Tuple tgs k pos) (gTupT n t1) :=
  ⟨fun d ρ Q Q' w ⟨ds, e, l, q⟩ => ⟨ds, e, l, h.mono _ _ _ _ w q⟩,
   fun hK => PG.weak (pg_tup hc (h.run hK) hn hst) fun v σ H Q ⟨N, ρ, g, d, R, r, ds, e, l, q⟩ => by
    subst e
    obtain ⟨p, us, ev, gm, sq, rs⟩ := r
    exact ⟨p, us, ev, hK ▸ sq, by rw [← rs.length]; exact l, N, ρ, g, ds, R, rs, q⟩⟩
@[simp] def tAsgT {G : Type} (t : TTE G) (gt : TTG) : TTS G := fun TD ex ρ g => t ρ g ex fun d g' => gt d ρ fun ρ' => TD.nx ρ' g'
abbrev allV (X : Cx) : List Nat := List.range X.N.length
theorem st_asg {tg : Expr} {gt : TTG} (he : PEt c .r X e t) (hg : PGt c X (allV X) tg gt) (hs : swapsWithSole [tg] e pos.line X.env = pure false := by rfl) (hw : swappedStores [tg] e X.env = pure none := by rfl)
    (h1 : (assignEach [tg] X.env).map (·.2) = [assign tg X.env] := by rfl) : PSt c X (.Assign [tg] e pos) (tAsgT t gt) :=
  ⟨fun ex ok => PS.weak (ps_asg (he.run ex ok) (hg.run ok.hK) hs hw h1) fun D σ H ⟨N, ρ, g, TD, R, q, F⟩ => ⟨N, ρ, g, R, he.mono _ _ _ _ _ (fun d g' q v H' R' th k r =>
    ⟨N, ρ, g', d, R', r, hg.mono _ _ _ _ (fun ρ' q σ' R2 _ => F.nx _ _ _ _ _ R2 q) q⟩) q⟩⟩
/-- a, b = x, y -/
@[simp] def tParT {G : Type} (i j : Nat) (t : TTA G) : TTS G := fun TD ex ρ g => t ρ g ex fun ds g' => ∃ d e, ds = [d, e] ∧ TD.nx ((ρ.set i (some d)).set j (some e)) g'
theorem st_par (i j : Nat) {x y : Str} {a b : Expr} {tr : TTA c.b.G} {px py pt : Pos} {kt k2 pt2} (ha : PAt c .r X [a, b] tr) (hij : i ≠ j := by decide) (hc : X.calm = true := by rfl) (hN : X.N.Nodup := by assumption) (hMi : c.M.contains i = false := by rfl) (hzi : c.zk.contains i = false := by rfl)
    (hMj : c.M.contains j = false := by rfl) (hzj : c.zk.contains j = false := by rfl) (hi : X.N[i]? = some x := by rfl) (hj : X.N[j]? = some y := by rfl)
    (hx : X.env.scope.names.lookup x = some .local := by rfl) (hy : X.env.scope.names.lookup y = some .local := by rfl)
    (hw : swappedStores [.Tuple [.Name x px, .Name y py] kt pt] (.Tuple [a, b] k2 pt2) X.env = pure (some [x, y]) := by rfl)
    (hs : swapsWithSole [.Tuple [.Name x px, .Name y py] kt pt] (.Tuple [a, b] k2 pt2) pos.line X.env = pure false := by rfl) : PSt c X (.Assign [.Tuple [.Name x px, .Name y py] kt pt] (.Tuple [a, b] k2 pt2) pos) (tParT i j tr) :=
  ⟨fun ex ok => PS.weak (ps_par hc hN hi hj hij hx hy (ha.run ex ok) hw hs) fun D σ H ⟨N, ρ, g, TD, R, q, F⟩ => ⟨N, ρ, g, R, ha.mono _ _ _ _ _ (fun ds g' q vs H' R' th k r => by
    obtain ⟨d, e, e1, q⟩ := q
    subst e1
    obtain ⟨v, vr, e2, r1, w, wr, e3, r2, e4⟩ := r.reps
    subst e2 e3
    cases (show wr = [] from e4)
    exact ⟨v, w, rfl, F.nx _ _ _ _ _ ((R'.set r1 (by simpa using hMi) (by simpa using hzi)).set r2 (by simpa using hMj) (by simpa using hzj)) q⟩) q⟩⟩
end
end TL
set_option Elab.async false
set_option linter.all false
set_option maxRecDepth 100000
set_option maxHeartbeats 2000000
/-! TL6: what is changed in place; loops; comprehensions. -/
namespace TL
open PySem PySem.Spec PyProof.Rows L2
section
variable {c : C} {X : Cx} {s : S} {e a b' : Expr} {t ta tb : TTE c.b.G} {pos : Pos} {st : Stmt} {rest : List Stmt} {u u1 u2 : TTS c.b.G}

/-! ### one's own is changed -/
theorem Rn.write {N : Addr → Prop} {ρ : Rho} {g : c.b.G} {σ : L2.St} {H : Hp} {i : Nat} {d d' : D} {p : Addr} {o : HO} (R : Rn c N ρ g σ H) (hi : i ∈ c.M) (e : ρ[i]? = some (some d)) (ht : d.top = true) (hp : σ[i]? = some (some (.ref p)))
    (nt : ∀ xs, ¬ Rd H p (.tup xs)) (hz : i ∉ c.zk) (rB : RepB c.b N (upd H p o) d' (.ref p)) (hg : ¬ c.b.Γ p) (ht' : d'.top = true) : Rn c N (ρ.set i (some d')) g σ (upd H p o) := by
  obtain ⟨p', h1, h2, h3, h4⟩ := R.own i hi d e ht
  rw [hp] at h1
  injection h1 with h1
  injection h1 with h1
  injection h1 with h1
  subst h1
  have stay : Stay c.b N H (upd H p o) := fun a ob ea _ q => by
    refine (upd_ne (fun z => ?_)).trans ea
    subst z
    exact q.elim (fun ⟨xs, w⟩ => nt xs w) fun w => w h3
  have kn : ∀ a, N a → N a ∨ H a = none := fun _ z => .inl z
  refine ⟨c.b.stab _ _ _ R.gh fun a ob ga ea => (upd_ne (fun z => by subst z; exact hg ga)).trans ea, fun a ob ea ga fa => ?_, R.n0, R.ng, fun a na z => ?_, by rw [List.length_set]; exact R.len, fun j d2 e2 => ?_, fun j hj d2 e2 t2 => ?_, fun z hzz => ?_, fun z hzz => (R.pin z hzz).stay stay kn⟩
  · refine (upd_ne (fun z => ?_)).trans (R.keep a ob ea ga fa)
    subst z
    exact h2.elim (fun w => by rw [w] at ea; cases ea) fa
  · by_cases q : a = p
    · subst q; rw [upd_same] at z; cases z
    · rw [upd_ne q] at z; exact R.nt a na z
  · rcases get_set e2 with ⟨e3, e4⟩ | ⟨e3, e4⟩
    · injection e4 with e4
      subst e4
      rw [e3]
      exact ⟨_, hp, rB⟩
    · obtain ⟨v, h5, h6⟩ := R.slot j d2 e4
      refine ⟨v, h5, ?_⟩
      cases d2 with
      | lst ds =>
        obtain ⟨p2, vs, e5, g5, q5, r5⟩ := h6
        refine ⟨p2, vs, e5, g5, (upd_ne (fun z => ?_)).trans q5, r5.stay stay kn⟩
        subst z
        exact h4 j _ e3 e4 rfl (by rw [h5, e5])
      | sel ax cn ns ds =>
        obtain ⟨p2, dx, fs, e5, g5, q5, f5, r5⟩ := h6
        refine ⟨p2, dx, fs, e5, g5, (upd_ne (fun z => ?_)).trans q5, f5, r5.stay stay kn⟩
        subst z
        exact h4 j _ e3 e4 rfl (by rw [h5, e5])
      | dct w kd ds =>
        obtain ⟨p2, es, e5, g5, q5, f5, r5, r6⟩ := h6
        refine ⟨p2, es, e5, g5, (upd_ne (fun z => ?_)).trans q5, f5, r5.stay stay kn, r6.stay stay kn⟩
        subst z
        exact h4 j _ e3 e4 rfl (by rw [h5, e5])
      | _ => exact Rep.stay (d := _) stay kn h6
  · rcases get_set e2 with ⟨e3, e4⟩ | ⟨e3, e4⟩
    · subst e3
      refine ⟨p, hp, h2, h3, fun k2 d3 hk ek tk z => ?_⟩
      rcases get_set ek with ⟨e5, _⟩ | ⟨_, e6⟩
      · exact hk e5
      · exact h4 k2 d3 hk e6 tk z
    · obtain ⟨p2, h5, h6, h7, h8⟩ := R.own j hj d2 e4 t2
      refine ⟨p2, h5, h6, h7, fun k2 d3 hk ek tk z => ?_⟩
      rcases get_set ek with ⟨e5, e6⟩ | ⟨_, e6⟩
      · injection e6 with e6
        subst e6
        rw [e5] at z
        exact h8 i d (fun w => e3 w.symm) e ht z
      · exact h8 k2 d3 hk e6 tk z
  · obtain ⟨h6, h7⟩ := R.frz z hzz
    have h5 := c.hZ z hzz
    exact ⟨h6, by rw [List.getElem?_set_ne (fun q : i = z.1 => hz (by rw [q]; exact h5))]; exact h7⟩
theorem nrd_lst {H : Hp} {p : Addr} {vs : List V} (h : H p = some (.lst vs)) : ∀ xs, ¬ Rd H p (.tup xs) := fun xs w => by
  rcases w with w | ⟨o, w⟩ <;> (rw [h] at w; cases w)
theorem nrd_ins {H : Hp} {p C dx : Addr} {fs : List (Str × V)} (h : H p = some (.ins C dx fs)) : ∀ xs, ¬ Rd H p (.tup xs) := fun xs w => by
  rcases w with w | ⟨o, w⟩ <;> (rw [h] at w; cases w)
/-- x.append(e) -/
@[simp] def tAppT {G : Type} (i : Nat) (t : TTE G) : TTS G := fun TD ex ρ g => (∃ es0, ρ[i]? = some (some (.lst es0))) ∧ t ρ g ex fun d g' => ∃ es, ρ[i]? = some (some (.lst es)) ∧ es.length < sizeLine ∧ TD.nx (ρ.set i (some (.lst (es ++ [d])))) g'
theorem st_app (i : Nat) {x : Str} {p apos cpos : Pos} (he : PEt c .r X e t) (hM : c.M.contains i = true := by rfl) (hz : c.zk.contains i = false := by rfl) (hN : X.N[i]? = some x := by rfl) (hv : Vis X.env.scope x := by first | exact Or.inl rfl | exact Or.inr (Or.inl rfl) | exact Or.inr (Or.inr rfl)) (hd : (x == ("__debug__" : Str)) = false := by decide)
    (hcd : (x == ("__classdict__" : Str)) = false := by decide)
    (hfew : ((backTo cpos (starEach [e] X.env)).all (fun x => !x.1) && (backToKw cpos (keywordEach [] X.env)).all (fun x => x.1.isSome) && decide ([e].length + ([] : List Keyword).length + (if ([] : List Keyword).isEmpty then 0 else 1) < 30)) = true := by rfl)
    (hline : (apos.endLine == cpos.line) = true := by rfl) (hs : starEach [e] X.env = (false, eval e X.env) :: starEach [] X.env := by rfl) (hplain : (backTo cpos (starEach [] X.env)).any (·.1) = false := by rfl)
    (hsw : swapsWith (.Call (.Attribute (.Name x p) "append" apos) [e] [] cpos) none pos.line X.env = pure false := by rfl) :
    PSt c X (.Expr (.Call (.Attribute (.Name x p) "append" apos) [e] [] cpos) pos) (tAppT i t) :=
  ⟨fun ex ok => PS.weak (ps_expr (pe_bm PySem.F.plainAttrs_list PySem.F.slot_list_append PySem.F.type_list_append mt_append (pe_var hN hv hd hcd) (pa_cons (he.run ex ok) pa_nil hs) rfl hfew hline hs hplain) hsw) fun D σ H ⟨N, ρ, g, TD, R, ⟨⟨es0, e0⟩, q⟩, F⟩ => by
    obtain ⟨v, h1, h2⟩ := R.slot i _ e0
    obtain ⟨l, vs, e1, g1, q1, r1⟩ := h2
    subst e1
    refine ⟨.ref l, h1, .inl ⟨rfl, vs, SqL.of q1⟩, N, ρ, g, R, he.mono _ _ _ _ _ (fun d g' ⟨es, e2, hl, q⟩ y H' R' th k r => ?_) q⟩
    obtain ⟨v', h3, h4⟩ := R'.slot i _ e2
    obtain ⟨l', vs', e3, g3, q3, r3⟩ := h4
    rw [h1] at h3
    injection h3 with h3
    injection h3 with h3
    subst h3
    injection e3 with e3
    subst e3
    refine ⟨l, vs', y, rfl, rfl, q3, by rw [← r3.length]; exact hl, F.nx _ _ _ _ _ (R'.write (by simpa using hM) e2 rfl h1 (nrd_lst q3) (by simpa using hz) ?_ g3 rfl) q⟩
    have h3N : N l := by
      obtain ⟨p', h5, _, h7, _⟩ := R'.own i (by simpa using hM) _ e2 rfl
      rw [h1] at h5
      injection h5 with h5
      injection h5 with h5
      injection h5 with h5
      exact h5 ▸ h7
    have stay : Stay c.b N H' (upd H' l (.lst (vs' ++ [y]))) := fun a ob ea _ q => by
      refine (upd_ne (fun z => ?_)).trans ea
      subst z
      exact q.elim (fun ⟨xs, w⟩ => nrd_lst q3 xs w) fun w => w h3N
    exact ⟨l, _, rfl, g3, upd_same, (r3.append (reps_cons r reps_nil)).stay stay fun a z => .inl z⟩⟩
/-- x[k] = e -/
@[simp] def tSetIT {G : Type} (i : Nat) (tk t : TTE G) : TTS G := fun TD ex ρ g => t ρ g ex fun d g1 => (∃ es0, ρ[i]? = some (some (.lst es0))) ∧ tk ρ g1 ex fun kd g' => ∃ k es j, kd = .int k ∧ ρ[i]? = some (some (.lst es)) ∧ ixN es.length k = some j ∧ TD.nx (ρ.set i (some (.lst (es.set j d)))) g'
theorem st_seti (i : Nat) {x : Str} {p tp : Pos} {ke : Expr} {tk : TTE c.b.G} {s2 : S} (hk : PEt c s2 X ke tk) (he : PEt c .r X e t) (hM : c.M.contains i = true := by rfl) (hz : c.zk.contains i = false := by rfl) (hN : X.N[i]? = some x := by rfl) (hv : Vis X.env.scope x := by first | exact Or.inl rfl | exact Or.inr (Or.inl rfl) | exact Or.inr (Or.inr rfl)) (hd : (x == ("__debug__" : Str)) = false := by decide)
    (hcd : (x == ("__classdict__" : Str)) = false := by decide)
    (ha : ∀ v, assign (.Subscript (.Name x p) ke tp) X.env v = (do
      let ov ← holding [v] (eval (.Name x p) X.env)
      let iv ← holding [v, ov] (eval ke X.env)
      standAt tp
      holding [v, ov, iv] (setItem ov iv v)
      release [v, ov, iv] []) := by intro _; rfl)
    (hs : swapsWithSole [.Subscript (.Name x p) ke tp] e pos.line X.env = pure false := by rfl) (hw : swappedStores [.Subscript (.Name x p) ke tp] e X.env = pure none := by rfl)
    (h1 : (assignEach [.Subscript (.Name x p) ke tp] X.env).map (·.2) = [assign (.Subscript (.Name x p) ke tp) X.env] := by rfl) :
    PSt c X (.Assign [.Subscript (.Name x p) ke tp] e pos) (tSetIT i tk t) :=
  ⟨fun ex ok => PS.weak (ps_asg (he.run ex ok) (pg_sub (pe_var hN hv hd hcd) (hk.run ex ok) set_list ha) hs hw h1) fun D σ H ⟨N, ρ, g, TD, R, q, F⟩ => ⟨N, ρ, g, R, he.mono _ _ _ _ _ (fun d g1 ⟨⟨es0, e0⟩, q⟩ y H1 R1 t1 k1 r1 => by
    obtain ⟨v, h1, h2⟩ := R1.slot i _ e0
    refine ⟨v, h1, N, ρ, g1, R1, hk.mono _ _ _ _ _ (fun kd g' ⟨k, es, j, ek, e2, hj, q⟩ kv H2 R2 t2 k2 r2 => ?_) q⟩
    subst ek
    have ekv : kv = .int k := r2.tob
    subst ekv
    obtain ⟨v', h3, h4⟩ := R2.slot i _ e2
    obtain ⟨l, vs', e3, g3, q3, r3⟩ := h4
    rw [h1] at h3
    injection h3 with h3
    injection h3 with h3
    subst h3
    subst e3
    refine ⟨l, vs', k, j, rfl, rfl, q3, by rw [← r3.length]; exact hj, F.nx _ _ _ _ _ (R2.write (by simpa using hM) e2 rfl h1 (nrd_lst q3) (by simpa using hz) ?_ g3 rfl) q⟩
    have h3N : N l := by
      obtain ⟨p', h5, _, h7, _⟩ := R2.own i (by simpa using hM) _ e2 rfl
      rw [h1] at h5
      injection h5 with h5
      injection h5 with h5
      injection h5 with h5
      exact h5 ▸ h7
    have stay : Stay c.b N H2 (upd H2 l (.lst (vs'.set j y))) := fun a ob ea _ q => by
      refine (upd_ne (fun z => ?_)).trans ea
      subst z
      exact q.elim (fun ⟨xs, w⟩ => nrd_lst q3 xs w) fun w => w h3N
    exact ⟨l, _, rfl, g3, upd_same, (r3.set j (Rep.keep k2 r1)).stay stay fun a z => .inl z⟩) q⟩⟩
/-- o.f = e, o one's own object in the making -/
def putD (f : Str) (d : D) : List Str → List D → List Str × List D
  | n :: ns, x :: ds => if n = f then (n :: ns, d :: ds) else (n :: (putD f d ns ds).1, x :: (putD f d ns ds).2)
  | _, _ => ([f], [d])
theorem putF_reps {b : B} {N : Addr → Prop} {H : Hp} {f : Str} {d : D} {v : V} (r : Rep b N H d v) : ∀ {fs : List (Str × V)} {ns : List Str} {ds : List D}, fs.map (·.1) = ns → Reps b N H ds (fs.map (·.2)) → (putF f v fs).map (·.1) = (putD f d ns ds).1 ∧ Reps b N H (putD f d ns ds).2 ((putF f v fs).map (·.2))
  | [], ns, ds, hn, h => by
    subst hn
    have : ds = [] := List.length_eq_zero_iff.mp h.length
    subst this
    exact ⟨rfl, reps_cons r reps_nil⟩
  | (m, x) :: fs, ns, ds, hn, h => by
    subst hn
    cases ds with
    | nil => have := h.length; simp at this
    | cons y ds =>
      obtain ⟨v1, r1, e1, h1, h2⟩ := h
      injection (show x :: List.map (·.2) fs = v1 :: r1 from e1) with e2 e3
      subst e2 e3
      by_cases hm : m = f
      · have z1 : putF f v ((m, x) :: fs) = (m, v) :: fs := if_pos hm
        have z2 : putD f d (m :: fs.map (·.1)) (y :: ds) = (m :: fs.map (·.1), d :: ds) := if_pos hm
        show (putF f v ((m, x) :: fs)).map (·.1) = (putD f d (m :: fs.map (·.1)) (y :: ds)).1 ∧ Reps b N H (putD f d (m :: fs.map (·.1)) (y :: ds)).2 _
        rw [z1, z2]
        exact ⟨rfl, reps_cons r h2⟩
      · have z1 : putF f v ((m, x) :: fs) = (m, x) :: putF f v fs := if_neg hm
        have z2 : putD f d (m :: fs.map (·.1)) (y :: ds) = (m :: (putD f d (fs.map (·.1)) ds).1, y :: (putD f d (fs.map (·.1)) ds).2) := if_neg hm
        show (putF f v ((m, x) :: fs)).map (·.1) = (putD f d (m :: fs.map (·.1)) (y :: ds)).1 ∧ Reps b N H (putD f d (m :: fs.map (·.1)) (y :: ds)).2 _
        rw [z1, z2]
        obtain ⟨q1, q2⟩ := putF_reps r (fs := fs) (ns := fs.map (·.1)) rfl h2
        exact ⟨by rw [List.map_cons, q1], reps_cons h1 q2⟩
@[simp] def tSetFT {G : Type} (i : Nat) (cs : List Str) (f : Str) (t : TTE G) : TTS G := fun TD ex ρ g => t ρ g ex fun d g' => ∃ ax cn ns ds, ρ[i]? = some (some (.sel ax cn ns ds)) ∧ cn ∈ cs ∧ ns.length < 1000 ∧ TD.nx (ρ.set i (some (.sel ax cn (putD f d ns ds).1 (putD f d ns ds).2))) g'
theorem st_setf (i : Nat) {x f : Str} {p pos' : Pos} (cs : List Str) (hf : ∀ cn ∈ cs, FieldOk c.b.K cn f) (he : PEt c .r X e t) (hM : c.M.contains i = true := by rfl) (hz : c.zk.contains i = false := by rfl) (hN : X.N[i]? = some x := by rfl) (hv : Vis X.env.scope x := by first | exact Or.inl rfl | exact Or.inr (Or.inl rfl) | exact Or.inr (Or.inr rfl)) (hd : (x == ("__debug__" : Str)) = false := by decide)
    (hcd : (x == ("__classdict__" : Str)) = false := by decide) (hs : swapsWith e (some (.Attribute (.Name x p) f pos')) pos.line X.env = pure false := by rfl) : PSt c X (.Assign [.Attribute (.Name x p) f pos'] e pos) (tSetFT i cs f t) :=
  ⟨fun ex ok => PS.weak (ps_fld (pe_var hN hv hd hcd) (he.run ex ok) hs) fun D σ H ⟨N, ρ, g, TD, R, q, F⟩ => ⟨N, ρ, g, R, he.mono _ _ _ _ _ (fun d g' ⟨ax, cn, ns, ds, e2, hcn, hl, q⟩ y H1 R1 t1 k1 r1 => by
    obtain ⟨v, h1, h2⟩ := R1.slot i _ e2
    obtain ⟨l, dx, fs, e3, g3, q3, f3, r3⟩ := h2
    subst e3
    refine ⟨.ref l, h1, l, _, dx, fs, rfl, q3, ok.hK ▸ (hf cn hcn).1, ok.hK ▸ (hf cn hcn).2, by rw [← f3.2, List.length_map] at hl; exact hl, F.nx _ _ _ _ _ (R1.write (by simpa using hM) e2 rfl h1 (nrd_ins q3) (by simpa using hz) ?_ g3 rfl) q⟩
    have h3N : N l := by
      obtain ⟨p', h5, _, h7, _⟩ := R1.own i (by simpa using hM) _ e2 rfl
      rw [h1] at h5
      injection h5 with h5
      injection h5 with h5
      injection h5 with h5
      exact h5 ▸ h7
    have stay : Stay c.b N H1 (upd H1 l (.ins (He.ga c.b.K cn) dx (putF f y fs))) := fun a ob ea _ q => by
      refine (upd_ne (fun z => ?_)).trans ea
      subst z
      exact q.elim (fun ⟨xs, w⟩ => nrd_ins q3 xs w) fun w => w h3N
    obtain ⟨w1, w2⟩ := putF_reps (f := f) (show Rep c.b N H1 d y from r1) f3.2 r3
    exact ⟨l, dx, _, rfl, g3, upd_same, ⟨f3.1, w1⟩, w2.stay stay fun a z => .inl z⟩) q⟩⟩
/-! ### x op= e -/
structure IpTR (X : Cx) (c : C) (op : Operator) (o : D → D → (D → Prop) → Prop) : Prop where
  ok : ∃ r, PIp X op r ∧ ∀ N d1 d2 x y H Qd Qv, RepB c.b N H d1 x → RepB c.b N H d2 y → o d1 d2 Qd → (∀ d, Qd d → ∀ v, Rep c.b N H d v → Qv v H) → r x y H Qv
@[simp] def tAugT {G : Type} (i : Nat) (o : D → D → (D → Prop) → Prop) (t : TTE G) : TTS G := fun TD ex ρ g => ∃ d0, ρ[i]? = some (some d0) ∧ t ρ g ex fun d g' => o d0 d fun z => TD.nx (ρ.set i (some z)) g'
theorem st_aug (i : Nat) {x : Str} {op : Operator} {o : D → D → (D → Prop) → Prop} {pos' : Pos} (ho : IpTR X c op o) (he : PEt c s X e t) (hM : c.M.contains i = false := by rfl) (hz : c.zk.contains i = false := by rfl) (hN : X.N.Nodup := by assumption) (hi : X.N[i]? = some x := by rfl) (hx : Loc X.env.scope x := by first | exact Or.inl rfl | exact Or.inr rfl)
    (hf : X.fn x = true ∨ X.env.scope.names.lookup x = some .local := by first | exact .inl rfl | exact .inr rfl | assumption) : PSt c X (.AugAssign (.Name x pos') op e pos) (tAugT i o t) :=
  ⟨fun ex ok => by
    obtain ⟨r, h1, h2⟩ := ho.ok
    refine PS.weak (ps_aug hN hi hx (he.run ex ok) h1 hf) fun D σ H ⟨N, ρ, g, TD, R, ⟨d0, e0, q⟩, F⟩ => ?_
    obtain ⟨v, h3, h4⟩ := R.slot i d0 e0
    refine ⟨v, h3, N, ρ, g, R, he.mono _ _ _ _ _ (fun d g' q y H' R' th k r => ?_) q⟩
    exact h2 N d0 d v y H' _ _ (h4.keep k) r.tob q fun z q u ru => F.nx _ _ _ _ _ (R'.set ru (by simpa using hM) (by simpa using hz)) q⟩
@[simp] def oAddI : D → D → (D → Prop) → Prop
  | .int i, .int j, Q => Q (.int (i + j))
  | .str x, .str y, Q => x.length + y.length ≤ sizeLine ∧ Q (.str (x ++ y))
  | _, _, _ => False
theorem ip_addT : IpTR X c .Add oAddI :=
  ⟨⟨fun x y H Q => (∃ i j, x = .int i ∧ y = .int j ∧ Q (.int (i + j)) H) ∨ (∃ i j, x = .str i ∧ y = .str j ∧ i.length + j.length ≤ sizeLine ∧ Q (.str (i ++ j)) H),
    fun pins s σ H x y v u Q I r1 r2 h => h.elim (fun h => ip_add pins s σ H x y v u Q I r1 r2 h) fun h => iop_add_str pins s σ H x y v u Q I r1 r2 h,
    fun N d1 d2 x y H Qd Qv r1 r2 q k => by
      cases d1 with
      | int i => cases d2 with
        | int j => exact .inl ⟨i, j, r1, r2, k _ q _ rfl⟩
        | _ => exact q.elim
      | str i => cases d2 with
        | str j => exact .inr ⟨i, j, r1, r2, q.1, k _ q.2 _ rfl⟩
        | _ => exact q.elim
      | _ => cases d2 <;> exact q.elim⟩⟩
theorem ip_subT : IpTR X c .Sub oSub :=
  ⟨⟨_, ip_sub, fun N d1 d2 x y H Qd Qv r1 r2 q k => by
      cases d1 with
      | int i => cases d2 with
        | int j => exact ⟨i, j, r1, r2, k _ q _ rfl⟩
        | _ => exact q.elim
      | _ => cases d2 <;> exact q.elim⟩⟩

/-! ### while -/
def tWhileT {G : Type} (tc : TTB G) (tb : TTS G) : TTS G := fun TD ex ρ g => ∃ W : Nat → Rho → G → Prop, (∃ m, W m ρ g) ∧ ∀ m ρ g, W m ρ g → tc ρ g ex fun k g1 =>
  if k = true then tb { TD with nx := fun ρ' g' => ∃ m', m' < m ∧ W m' ρ' g', ct := fun ρ' g' => ∃ m', m' < m ∧ W m' ρ' g', bk := TD.nx } ex ρ g1 else TD.nx ρ g1
theorem st_while {ce : Expr} {tc : TTB c.b.G} {body : List Stmt} (hc : PBt c X ce tc) (hb : PSst c X body u) : PSt c X (.While ce body [] pos) (tWhileT tc u) :=
  ⟨fun ex ok => PS.weak (ps_while ok.pass (hc.run ex ok) (hb.run ex ok)) fun D σ H ⟨N, ρ, g, TD, R, ⟨W, ⟨m0, w0⟩, turn⟩, F⟩ => by
    refine ⟨fun m σ H => ∃ N ρ g, Rn c N ρ g σ H ∧ W m ρ g, ⟨m0, N, ρ, g, R, w0⟩, ?_⟩
    rintro m σ H ⟨N, ρ, g, R, w⟩
    refine ⟨N, ρ, g, R, hc.mono _ _ _ _ _ (fun k g1 q H1 R1 t1 k1 => ?_) (turn m ρ g w)⟩
    cases k with
    | true =>
      rw [if_pos rfl] at q ⊢
      refine ⟨fun σ' H' => ∃ m', m' < m ∧ ∃ N ρ g, Rn c N ρ g σ' H' ∧ W m' ρ g, fun σ' H' z => z, N, ρ, g1, _, R1, q, ?_⟩
      exact ⟨fun N ρ g σ H R ⟨m', hm, w⟩ => ⟨m', hm, N, ρ, g, R, w⟩, fun N ρ g σ H R q => F.nx _ _ _ _ _ R q, fun N ρ g σ H R ⟨m', hm, w⟩ => ⟨m', hm, N, ρ, g, R, w⟩, F.rt⟩
    | false => rw [if_neg Bool.false_ne_true] at q ⊢; exact F.nx _ _ _ _ _ R1 q⟩
end
end TL
set_option Elab.async false
set_option linter.all false
set_option maxRecDepth 100000
set_option maxHeartbeats 4000000
/-! TL7: enumerate over tuples, at the hand layer's level. -/
namespace TL
open PySem PySem.Spec PyProof.Rows L2
theorem meets_enumerate_new1 {v : Value} {o : Obj} {H : Heap → Prop} (B : Begins v o H) :
    Meets (Builtin.«enumerate.__new__» ⟨[.type "enumerate", v], []⟩) (fun _ R s => H s.heap ∧
      R (.ok (.ret (.ref (s.heap.push o).objs.size))) { s with heap := (s.heap.push o).push { cls := .type "enumerate", data := .fields #[.none, .bool false, .ref s.heap.objs.size, rawInt 0, .none, .none] } }) :=
  .of_wp fun prog w A R s h => by
    obtain ⟨hp, g, d, tk, os⟩ := s; obtain ⟨h1, h⟩ := h
    have hsub := sub_enumerate
    have q1 : ∀ {A' : Around} {E : Value → Shared → Prop} {Q : Value → Shared → Prop}, Q (.ref hp.objs.size) ⟨hp.push o, g, d, tk, os⟩ → wpAny (model prog w) A' (pyIter v) Q E ⟨hp, g, d, tk, os⟩ :=
      fun q => B.iter prog w _ _ ⟨hp, g, d, tk, os⟩ _ h1 q
    wp_walk using q1
    refine wpAny_stack_any fun st => wpAny_pure ?_
    split
    · rename_i c _ _ _ _ _
      cases (c == Value.type "enumerate")
      · wp_walk using q1
        exact ⟨_, rfl, h⟩
      · wp_walk using q1
        exact ⟨_, rfl, h⟩
    · wp_walk using q1
      exact ⟨_, rfl, h⟩
theorem enum_begins1 {prog : Program} {w : World} {A : Around} {E : Value → Shared → Prop} {s : Shared} {v : Value} {o : Obj} {H : Heap → Prop} {Q : Value → Shared → Prop} (B : Begins v o H) (h1 : H s.heap)
    (h : ∀ h', IsEnum h' (s.heap.objs.size + 1) s.heap.objs.size 0 .none → h'.get? s.heap.objs.size = some o → h'.objs.size = s.heap.objs.size + 2 →
      (∀ b o, s.heap.get? b = some o → h'.get? b = some o) → Q (.ref (s.heap.objs.size + 1)) { s with heap := h' }) :
    wpAny (model prog w) A (call (.type "enumerate") [v]) Q E s := by
  refine callType_new F.called_enumerate (by decide) (F.typeCall_enumerate_1 _) (F.newCall_enumerate_1 _) (fun obj => F.args_object_init_2 obj _) F.entry_enumerate_new
    (meets_enumerate_new1 B) ⟨h1, ?_⟩
  have hz : (s.heap.push o).objs.size = s.heap.objs.size + 1 := Heap.size_push ..
  show _ ∧ _
  rw [hz]
  have he : IsEnum ((s.heap.push o).push { cls := .type "enumerate", data := .fields #[.none, .bool false, .ref s.heap.objs.size, rawInt 0, .none, .none] }) (s.heap.objs.size + 1) s.heap.objs.size 0 .none := by
    have := Heap.get?_push_size (s.heap.push o) (o := { cls := .type "enumerate", data := .fields #[.none, .bool false, .ref s.heap.objs.size, rawInt 0, .none, .none] }) rfl
    rw [hz] at this; exact this
  refine ⟨⟨_, he, rfl⟩, h _ he (Heap.get?_push_of_some _ (Heap.get?_push_size _ B.free)) (by rw [Heap.size_push, hz]) fun b o x => Heap.get?_push_of_some _ (Heap.get?_push_of_some _ x)⟩
/-- the tuple at a, each item in a new pair -/
def IteT (K : PySem.W.Frag) (a : Addr) : It :=
  ⟨fun i H => ∃ (xs : List V) (x : V), SqT K H a xs ∧ xs[i]? = some x, fun i H v H' => ∃ T x, v = .ref T ∧ H T = none ∧ H' = upd H T (.tup [.int (i : Nat), x]) ∧ ∀ xs, SqT K H a xs → xs[i]? = some x, fun i H => ∃ xs : List V, SqT K H a xs ∧ xs.length ≤ i⟩
theorem turn_enumT {P : Program} {w : World} {K : PySem.W.Frag} {elts : List Expr} {kk : Nat} {tpos : Pos} (a e it : Addr) (hae : a ≠ e) (hai : a ≠ it) :
    Turn P w K (.Tuple elts kk tpos) (IteT K a) [e, it] e (fun i h => (∃ old, IsEnum h e it ((i : Nat) : Int) old) ∧ h.IsTupleIter it a i ∧ e ≠ it) where
  mem := by simp
  obj := fun i h st b hb => by
    obtain ⟨⟨old, he⟩, ⟨o, ho, hc, hd⟩, _⟩ := st
    have e' : b = e ∨ b = it := by simpa using hb
    rcases e' with z | z
    · rw [z]; exact ⟨_, he, fun v q => nomatch q⟩
    · rw [z]; exact ⟨o, ho, fun v q => by rw [hd] at q; cases q⟩
  keep := fun i h h' st k => let ⟨⟨old, he⟩, hi, hne⟩ := st; ⟨⟨old, k e (by simp) _ he⟩, hi.at fun o q => k it (by simp) o q, hne⟩
  item := by
    intro X hP hw hK hc i pins s σ H E I hf st hg
    subst hP hw hK
    obtain ⟨⟨old, he⟩, hit, hne⟩ := st
    obtain ⟨xs, x, hq, hx⟩ := hg
    obtain ⟨its, rv, p, hz⟩ := I.tuple hq
    obtain ⟨u, hu, ru⟩ := rv.get hx
    have hel : e < s.heap.objs.size := Heap.lt_size he
    have hil : it < s.heap.objs.size := by obtain ⟨_, q, _⟩ := hit; exact Heap.lt_size q
    have DT : Draws X.prog X.w X.A.in1 it [it, a] its.toArray.size (fun i v => its.toArray[i]? = some v) (fun i h => h.IsTupleIter it a i ∧ h.IsTuple a its.toArray) := Draws.tuple (A := X.A.in1) (show X.A.in1.handled = none from I.ok.hd hc) it a hai its.toArray
    refine wpAny_pyNext_enum_itemD DT he ⟨hit, p⟩ (by
      have h1 := (List.getElem?_eq_some_iff.mp hu).1
      simpa using h1) hne (by simp [hne, Ne.symm hae]) fun x' h' tk hP' ho hit' hT hsz hk => ?_
    have exu : x' = u := by
      have h1 : its.toArray[i]? = some u := by simpa using hu
      rw [h1] at hP'
      exact (Option.some.inj hP').symm
    subst exu
    refine ⟨_, rfl, wpAny_letOwnedTupleGo_enum (s := { s with heap := h', toks := tk + 1 }) ho fun h'' he' sb => ?_⟩
    have hT2 : h''.get? s.heap.objs.size = some { cls := .type "tuple", data := .seq #[.int i tk, x'] } := (sb.2 _ (Nat.ne_of_gt hel)).trans hT
    have new : ObjOk X.prog X.w (upd H s.heap.objs.size (.tup [.int (i : Nat), x])) h'' s.heap.objs.size (.tup [.int (i : Nat), x]) :=
      ⟨by show 2 ≤ sizeLine; decide, [.int i tk, x'], .cons ⟨_, rfl⟩ (.cons ru .nil), ⟨_, hT2, rfl, _, rfl⟩⟩
    have I1 : Inv X pins σ (upd H s.heap.objs.size (.tup [.int (i : Nat), x])) { s with heap := h'', toks := tk + 1 } :=
      I.turnedNew (ch := [e, it]) (fun b ob hb q => (sb.2 b (fun z => hb (by simp [z]))).trans (hk b ob (fun z => hb (by simp [z])) (fun z => hb (by simp [z])) q)) hf (Nat.le_refl _) new
    refine ⟨.ref s.heap.objs.size, _, I1, rfl, ⟨_, x, rfl, I.hok.fresh (Nat.le_refl _), rfl, fun ys hy => by rw [I.tuple_inj hy hq]; exact hx⟩, ⟨⟨x', ?_⟩, hit'.1.at fun o q => (sb.2 it (Ne.symm hne)).trans q, hne⟩, fun b hb => ?_⟩
    · have e1 : ((i + 1 : Nat) : Int) = (i : Int) + 1 := by omega
      rw [e1]; exact he'
    · have hb' : b < s.heap.objs.size := by
        have e' : b = e ∨ b = it := by simpa using hb
        rcases e' with z | z
        · rw [z]; exact hel
        · rw [z]; exact hil
      rw [upd_ne (Nat.ne_of_lt hb')]
      exact (hf b hb).1
  done := by
    intro X hP hw hK hc i pins s σ H E I hf st hg
    subst hP hw hK
    obtain ⟨⟨old, he⟩, hit, hne⟩ := st
    obtain ⟨xs, hq, hx⟩ := hg
    obtain ⟨its, rv, p, hz⟩ := I.tuple hq
    obtain ⟨f0, f1, f2, f3, f4, f5⟩ := hf it (by simp)
    have hl := rv.length
    have hT : s.TypeIs (.ref e) "enumerate" := ⟨_, he, rfl⟩
    unfold pyNext
    refine wpAny_bind (wpAny_attempt (wpAny_callSpecial?_slot (name := Str.ofString "__next__") hT F.slot_enumerate_next
      (wpAny_call_entry F.slot_enumerate_next hT F.entry_enumerate_next ?_ (F.args_enumerate_next_1 _))))
    show wpAny _ _ (field (.ref e) 2 >>= _) _ _ _
    refine wpAny_bind (wpAny_field he rfl (x := .ref it) rfl ?_)
    refine wpAny_bind (wpAny_nextOf_tuple_end (I.ok.hd hc) hit p (by simp; omega) fun h' x he' hx' => ?_)
    obtain ⟨o, ho, hc'⟩ := hx'
    refine wpAny_bind (wpAny_isInstance (T := "StopIteration") (b := true) ⟨o, ho, hc'⟩ isSubtype_stop ?_)
    exact wpAny_pure ⟨rfl, I.turned (t' := s.toks) (fun b o hb q => he' b o hb q) f0 f1 f3 f4 f5⟩
  self := fun A i s Q E st h => let ⟨⟨_, he⟩, _⟩ := st; wpAny_pyIter_enum he h
def iEnumT (K : PySem.W.Frag) (ta : TA) : TI := fun σ H R => ta σ H fun vs H1 => ∃ a xs, vs = [.ref a] ∧ SqT K H1 a xs ∧ R (IteT K a) H1
theorem pi_enumT {X : Cx} {e : Expr} {ta : TA} {p pos tpos : Pos} {elts : List Expr} {kk : Nat} (hg : Gl X "enumerate") (hm : X.mg "enumerate" = none) (ha : PA X [e] ta) (hs : starEach [e] X.env = [(false, eval e X.env)] := by rfl) :
    PI X (.Tuple elts kk tpos) (.Call (.Name "enumerate" p) [e] [] pos) (iEnumT X.K ta) := by
  refine ⟨fun pins s σ H R I h => ?_⟩
  refine Call_ (ld_blt I hg hm boot_enumerate (PyProof.Rows.callWith_type1 (thn (ha.run pos pins s σ H _ I h) fun us s1 ⟨vs, H1, I1, r1, q1⟩ => ?_) hs rfl))
  obtain ⟨a, xs, ex, hq, q⟩ := q1
  subst ex
  cases r1 with
  | cons r rr =>
    cases rr
    cases r
    obtain ⟨its, rv, p', hz⟩ := I1.tuple hq
    refine enum_begins1 (begins_tuple a its.toArray) p' fun h' he hit hsz hk => wpAny_pyIter_enum he ?_
    have I2 : Inv X pins σ H1 { s1 with heap := h' } := I1.kept (t' := s1.toks) hk
    have hal : a < s1.heap.objs.size := by obtain ⟨o, ho, _⟩ := p'; exact Heap.lt_size ho
    refine ⟨s1.heap.objs.size + 1, [s1.heap.objs.size + 1, s1.heap.objs.size], _, _, H1, rfl, I2, turn_enumT a (s1.heap.objs.size + 1) s1.heap.objs.size (Nat.ne_of_lt (Nat.lt_succ_of_lt hal)) (Nat.ne_of_lt hal), ⟨⟨.none, he⟩, ⟨_, hit, rfl, rfl⟩, Nat.succ_ne_self _⟩, fun b hb => ?_, q⟩
    have e' : b = s1.heap.objs.size + 1 ∨ b = s1.heap.objs.size := by simpa using hb
    have hle : s1.heap.objs.size ≤ b := by
      rcases e' with z | z
      · rw [z]; exact Nat.le_add_right _ _
      · rw [z]; exact Nat.le_refl _
    exact I1.fpOk hle (I1.hok.fresh hle)
theorem walk_enumT {K : PySem.W.Frag} {a : Addr} {xs : List V} : Walk (IteT K a) xs.length (fun H => SqT K H a xs) (YPair (fun i => some (.int (i : Nat))) (fun i => xs[i]?)) := by
  refine ⟨fun i _ hi q => ⟨xs, xs[i], q, by simp [hi]⟩, fun _ q => ⟨xs, q, Nat.le_refl _⟩, fun i H v H' _ q y => ?_⟩
  obtain ⟨T, x, h1, h2, h3, h4⟩ := y
  exact ⟨T, .int (i : Nat), x, h1, h2, h3, rfl, h4 xs q⟩
theorem walk_zipT {K : PySem.W.Frag} {a b : Addr} {xs ys : List V} {n : Nat} (hn : n = min xs.length ys.length) : Walk (RZ.ItzT K a b) n (fun H => SqT K H a xs ∧ SqT K H b ys) (YPair (fun i => xs[i]?) (fun i => ys[i]?)) := by
  subst hn
  refine ⟨fun i _ hi q => ?_, fun _ q => ⟨xs, ys, q.1, q.2, by omega⟩, fun i H v H' _ q y => ?_⟩
  · have h1 : i < xs.length := by omega
    have h2 : i < ys.length := by omega
    exact ⟨xs, ys, xs[i], ys[i], q.1, q.2, by simp [h1], by simp [h2]⟩
  · obtain ⟨T, x, z, h1, h2, h3, h4, h5⟩ := y
    exact ⟨T, x, z, h1, h2, h3, h4 xs q.1, h5 ys q.2⟩
end TL
set_option Elab.async false
set_option linter.all false
set_option maxRecDepth 100000
set_option maxHeartbeats 4000000
/-! TL8: what is walked; for; comprehensions. -/
namespace TL
open PySem PySem.Spec PyProof.Rows L2
section
variable {c : C} {X : Cx} {s : S} {e a b' : Expr} {t ta tb : TTE c.b.G} {pos : Pos} {st : Stmt} {rest : List Stmt} {u u1 u2 : TTS c.b.G}

/-- more stands still: slots zs with Z, values pf -/
abbrev C.ext (c : C) (zs : List Nat) (Z : List (Nat × V × D)) (pf : List (D × V)) (hz : ∀ z ∈ Z, z.1 ∈ zs) : C :=
  { c with zk := zs ++ c.zk, Z := Z ++ c.Z, pf := pf ++ c.pf, hZ := fun z h => (List.mem_append.mp h).elim (fun h => List.mem_append_left _ (hz z h)) fun h => List.mem_append_right _ (c.hZ z h) }
theorem Rn.unext {zs : List Nat} {Z : List (Nat × V × D)} {pf : List (D × V)} {hz : ∀ z ∈ Z, z.1 ∈ zs} {N : Addr → Prop} {ρ : Rho} {g : c.b.G} {σ : L2.St} {H : Hp} (R : Rn (c.ext zs Z pf hz) N ρ g σ H) : Rn c N ρ g σ H :=
  ⟨R.gh, R.keep, R.n0, R.ng, R.nt, R.len, R.slot, R.own, fun z h => R.frz z (List.mem_append_right _ h), fun z h => R.pin z (List.mem_append_right _ h)⟩
theorem Rn.ext {zs : List Nat} {Z : List (Nat × V × D)} {pf : List (D × V)} (hz : ∀ z ∈ Z, z.1 ∈ zs) {N : Addr → Prop} {ρ : Rho} {g : c.b.G} {σ : L2.St} {H : Hp} (R : Rn c N ρ g σ H) (hZ : ∀ z ∈ Z, σ[z.1]? = some (some z.2.1) ∧ ρ[z.1]? = some (some z.2.2)) (hp : ∀ z ∈ pf, Rep c.b N H z.1 z.2) : Rn (c.ext zs Z pf hz) N ρ g σ H :=
  ⟨R.gh, R.keep, R.n0, R.ng, R.nt, R.len, R.slot, R.own, fun z h => (List.mem_append.mp h).elim (hZ z) (R.frz z), fun z h => (List.mem_append.mp h).elim (hp z) (R.pin z)⟩
/-- J walks its while the state stands -/
structure WalkOk (c : C) (its : List D) (J : It) : Prop where
  ok : ∃ G Y, Walk J its.length G Y ∧ (∀ N ρ g σ H, Rn c N ρ g σ H → G H) ∧ ∀ i H x H2 N ρ g σ d, its[i]? = some d → Rn c N ρ g σ H → Y i H x H2 → Same H H2 ∧ Rep c.b N H2 d x
abbrev TTI (G : Type) := Rho → G → TX G → (List D → G → Prop) → Prop
def liftI (c : C) (zs : List Nat) (t : TTI c.b.G) (ex : TX c.b.G) : TI := fun σ H R => ∃ N ρ g, Rn c N ρ g σ H ∧ t ρ g ex fun its g' => ∀ H' J Z pf hz, Rn (c.ext zs Z pf hz) N ρ g' σ H' → (∀ a, H a ≠ none → H' a ≠ none) → Keep c.b H H' → WalkOk (c.ext zs Z pf hz) its J → R J H'
structure PIt (c : C) (X : Cx) (zs : List Nat) (tg iter : Expr) (t : TTI c.b.G) : Prop where
  mono : ∀ ρ g ex Q Q', (∀ d g, Q d g → Q' d g) → t ρ g ex Q → t ρ g ex Q'
  run : ∀ ex, XOk X c ex → PI X tg iter (liftI c zs t ex)
theorem PI.weak {tg iter : Expr} {w w' : TI} (h : PI X tg iter w) (k : ∀ σ H R, w' σ H R → w σ H R) : PI X tg iter w' := ⟨fun pins s σ H R I q => h.run pins s σ H R I (k _ _ _ q)⟩

/-- a value that stands still -/
def Held (c : C) (d : D) (v : V) : Prop := (d, v) ∈ c.pf ∨ ∃ i, (i, v, d) ∈ c.Z
theorem Held.rep {d : D} {v : V} (h : Held c d v) {N : Addr → Prop} {ρ : Rho} {g : c.b.G} {σ : L2.St} {H : Hp} (R : Rn c N ρ g σ H) : RepB c.b N H d v := by
  rcases h with h | ⟨i, h⟩
  · exact (R.pin _ h).toB
  · obtain ⟨h2, h3⟩ := R.frz _ h
    obtain ⟨u, h4, h5⟩ := R.slot i _ h3
    rw [show σ[i]? = some (some v) from h2] at h4
    injection h4 with h4
    injection h4 with h4
    subst h4
    exact h5
theorem Held.lst {ds : List D} {p : Addr} (h : Held c (.lst ds) (.ref p)) {N : Addr → Prop} {ρ : Rho} {g : c.b.G} {σ : L2.St} {H : Hp} (R : Rn c N ρ g σ H) : ∃ vs, H p = some (.lst vs) ∧ Reps c.b N H ds vs := by
  obtain ⟨q, vs, e, _, sq, rs⟩ := h.rep R
  injection e with e
  subst e
  exact ⟨vs, sq, rs⟩
theorem Held.tup {ds : List D} {p : Addr} (h : Held c (.tup ds) (.ref p)) {N : Addr → Prop} {ρ : Rho} {g : c.b.G} {σ : L2.St} {H : Hp} (R : Rn c N ρ g σ H) : ∃ vs, SqT c.b.K H p vs ∧ Reps c.b N H ds vs := by
  obtain ⟨q, vs, e, _, sq, rs⟩ := h.rep R
  injection e with e
  subst e
  exact ⟨vs, sq, rs⟩
theorem Held.more {zs : List Nat} {Z : List (Nat × V × D)} {pf : List (D × V)} {hz : ∀ z ∈ Z, z.1 ∈ zs} {d : D} {v : V} (h : Held c d v) : Held (c.ext zs Z pf hz) d v :=
  h.elim (fun h => .inl (List.mem_append_right _ h)) fun ⟨i, h⟩ => .inr ⟨i, List.mem_append_right _ h⟩
/-- an expression whose value stands still -/
def liftSrc (c : C) (zs : List Nat) (t : TTE c.b.G) (ex : TX c.b.G) : TE := fun σ H Q => ∃ N ρ g, Rn c N ρ g σ H ∧ t ρ g ex fun d g' => ∀ v H' Z pf hz, Rn (c.ext zs Z pf hz) N ρ g' σ H' → (∀ a, H a ≠ none → H' a ≠ none) → Keep c.b H H' → Held (c.ext zs Z pf hz) d v → Q v H'
structure PSrc (c : C) (X : Cx) (zs : List Nat) (e : Expr) (t : TTE c.b.G) : Prop where
  mono : ∀ ρ g ex Q Q', (∀ d g, Q d g → Q' d g) → t ρ g ex Q → t ρ g ex Q'
  run : ∀ ex, XOk X c ex → PE X e (liftSrc c zs t ex)
theorem src_var (i : Nat) {x : Str} (hN : X.N[i]? = some x := by rfl) (hv : Vis X.env.scope x := by first | exact Or.inl rfl | exact Or.inr (Or.inl rfl) | exact Or.inr (Or.inr rfl)) (hd : (x == ("__debug__" : Str)) = false := by decide)
    (hcd : (x == ("__classdict__" : Str)) = false := by decide) : PSrc c X [i] (.Name x pos) (tVarT i) :=
  ⟨fun ρ g ex Q Q' w q => let ⟨d, e, q⟩ := q; ⟨d, e, w _ _ q⟩,
   fun ex ok => PE.weak (pe_var hN hv hd hcd) fun σ H Q ⟨N, ρ, g, R, d, e, q⟩ => let ⟨v, h1, h2⟩ := R.slot i d e
     ⟨v, h1, q v H [(i, v, d)] [] (fun z hz => by rw [List.mem_singleton.mp hz]; simp) (R.ext _ (fun z hz => by rw [List.mem_singleton.mp hz]; exact ⟨h1, e⟩) (fun z hz => nomatch hz)) (fun _ z => z) .refl (.inr ⟨i, List.mem_append_left _ (by simp)⟩)⟩⟩
theorem src_val {s : S} (he : PEt c s X e t) (hs : s = .r ∨ s = .f := by first | exact Or.inl rfl | exact Or.inr rfl) : PSrc c X [] e t :=
  ⟨he.mono, fun ex ok => PE.weak (he.run ex ok) fun σ H Q ⟨N, ρ, g, R, q⟩ => ⟨N, ρ, g, R, he.mono _ _ _ _ _ (fun d g' q v H' R' th k r => by
    have r' : Rep c.b N H' d v := by
      rcases hs with h | h <;> subst h
      · exact r
      · exact r.1
    exact q v H' [] [(d, v)] (fun z hz => nomatch hz) (R'.ext _ (fun z hz => nomatch hz) (fun z hz => by rw [List.mem_singleton.mp hz]; exact r')) th k (.inl (List.mem_append_left _ (by simp)))) q⟩⟩

/-! ### sources -/
theorem walkOk_tup {ds : List D} {p : Addr} (hp : Held c (.tup ds) (.ref p)) (hK : X.K = c.b.K) : WalkOk c ds (Itt X.K p) := by
  refine ⟨fun H => ∃ vs, vs.length = ds.length ∧ SqT X.K H p vs, fun i H x H2 => H2 = H ∧ ∀ vs, SqT X.K H p vs → vs[i]? = some x, ⟨fun i H hi ⟨vs, hl, sq⟩ => ⟨vs, vs[i]'(by omega), sq, by simp⟩, fun H ⟨vs, hl, sq⟩ => ⟨vs, sq, by omega⟩, fun i H x H' hi ⟨vs, hl, sq⟩ y => y⟩, fun N ρ g σ H R => ?_, fun i H x H2 N ρ g σ d hd R y => ?_⟩
  · obtain ⟨vs, sq, rs⟩ := hp.tup R
    exact ⟨vs, rs.length.symm, hK ▸ sq⟩
  · obtain ⟨e, y⟩ := y
    subst e
    obtain ⟨vs, sq, rs⟩ := hp.tup R
    obtain ⟨v, h1, h2⟩ := rs.get hd
    have := y vs (hK ▸ sq)
    rw [h1] at this
    injection this with this
    exact ⟨fun _ _ e => e, this ▸ h2⟩
theorem walkOk_lst {ds : List D} {p : Addr} (hp : Held c (.lst ds) (.ref p)) : WalkOk c ds (Itl X.K p) := by
  refine ⟨fun H => ∃ vs, vs.length = ds.length ∧ SqL X.K H p vs, fun i H x H2 => H2 = H ∧ ∀ vs, SqL X.K H p vs → vs[i]? = some x, ⟨fun i H hi ⟨vs, hl, sq⟩ => ⟨vs, vs[i]'(by omega), sq, by simp⟩, fun H ⟨vs, hl, sq⟩ => ⟨vs, sq, by omega⟩, fun i H x H' hi ⟨vs, hl, sq⟩ y => y⟩, fun N ρ g σ H R => ?_, fun i H x H2 N ρ g σ d hd R y => ?_⟩
  · obtain ⟨vs, sq, rs⟩ := hp.lst R
    exact ⟨vs, rs.length.symm, SqL.of sq⟩
  · obtain ⟨e, y⟩ := y
    subst e
    obtain ⟨vs, sq, rs⟩ := hp.lst R
    obtain ⟨v, h1, h2⟩ := rs.get hd
    have := y vs (SqL.of sq)
    rw [h1] at this
    injection this with this
    exact ⟨fun _ _ e => e, this ▸ h2⟩
/-- the signs of a text -/
def signs (z : Str) : List D := z.cps.toList.map fun k => D.str ⟨#[k]⟩
theorem walkOk_str {z : Str} : WalkOk c (signs z) (Its z) := by
  refine ⟨fun _ => True, fun i H v H' => H' = H ∧ ∃ k, z.cps[i]? = some k ∧ v = .str ⟨#[k]⟩, ?_, fun _ _ _ _ _ _ => trivial, fun i H x H2 N ρ g σ d hd R y => ?_⟩
  · have w := walk_str (z := z)
    rw [show z.cps.size = (signs z).length by simp [signs]] at w
    exact w
  · obtain ⟨e, k, hk, ev⟩ := y
    subst e ev
    refine ⟨fun _ _ e => e, ?_⟩
    have : (signs z)[i]? = some (D.str ⟨#[k]⟩) := by simp [signs, hk]
    rw [this] at hd
    injection hd with hd
    exact hd ▸ rfl
def rngD (lo : Int) (n : Nat) : List D := (List.range n).map fun i => D.int (lo + (i : Nat))
theorem walkOk_rng {lo : Int} {n : Nat} : WalkOk c (rngD lo n) (Itr lo n) := by
  refine ⟨fun _ => True, YFn fun i => .int (lo + i), ?_, fun _ _ _ _ _ _ => trivial, fun i H x H2 N ρ g σ d hd R y => ?_⟩
  · have w := walk_range (lo := lo) (n := n)
    have e : n = (rngD lo n).length := by simp [rngD]
    exact ⟨fun i H hi h => w.goes i H (by omega) h, fun H h => by rw [← e]; exact w.stops H h, fun i H x H' hi h y => w.yields i H x H' (by omega) h y⟩
  · obtain ⟨e, ev⟩ := y
    subst e ev
    refine ⟨fun _ _ e => e, ?_⟩
    have hi : i < n := by
      have := (List.getElem?_eq_some_iff.mp hd).1
      simpa [rngD] using this
    have : (rngD lo n)[i]? = some (D.int (lo + (i : Nat))) := by simp [rngD, hi]
    rw [this] at hd
    injection hd with hd
    exact hd ▸ rfl
/-- a new pair each turn -/
theorem pair_rep {N : Addr → Prop} {ρ : Rho} {g : c.b.G} {σ : L2.St} {H : Hp} {T : Addr} {x y : V} {d1 d2 : D} (R : Rn c N ρ g σ H) (hT : H T = none) (r1 : Rep c.b N H d1 x) (r2 : Rep c.b N H d2 y) : Same H (upd H T (.tup [x, y])) ∧ Rep c.b N (upd H T (.tup [x, y])) (.tup [d1, d2]) (.ref T) := by
  obtain ⟨sm, rf⟩ := repTup (c := c) (fun p z => R.fresh z) hT (reps_cons r1 (reps_cons r2 reps_nil))
  exact ⟨sm, rf.1⟩
def enumD (ds : List D) : List D := ds.zipIdx.map fun q => D.tup [.int (q.2 : Nat), q.1]
theorem enumD_length (ds : List D) : (enumD ds).length = ds.length := by simp [enumD]
theorem enumD_get {ds : List D} {i : Nat} {d : D} (h : (enumD ds)[i]? = some d) : ∃ x, ds[i]? = some x ∧ d = .tup [.int (i : Nat), x] := by
  unfold enumD at h
  rw [List.getElem?_map] at h
  cases q : ds.zipIdx[i]? with
  | none => rw [q] at h; cases h
  | some p =>
    rw [q] at h
    injection h with h
    rw [List.getElem?_zipIdx] at q
    cases q2 : ds[i]? with
    | none => rw [q2] at q; cases q
    | some x =>
      rw [q2] at q
      injection q with q
      subst q
      exact ⟨x, rfl, by rw [← h]; simp⟩
theorem walkOk_enumL {ds : List D} {p : Addr} (hp : Held c (.lst ds) (.ref p)) : WalkOk c (enumD ds) (Ite X.K p) := by
  refine ⟨fun H => ∃ vs, vs.length = ds.length ∧ SqL X.K H p vs, fun i H v H' => ∃ T x, v = .ref T ∧ H T = none ∧ H' = upd H T (.tup [.int (i : Nat), x]) ∧ ∀ vs, SqL X.K H p vs → vs[i]? = some x, ⟨fun i H hi ⟨vs, hl, sq⟩ => ⟨vs, vs[i]'(by rw [enumD_length] at hi; omega), sq, by simp⟩, fun H ⟨vs, hl, sq⟩ => ⟨vs, sq, by rw [enumD_length]; omega⟩, fun i H x H' hi ⟨vs, hl, sq⟩ y => y⟩, fun N ρ g σ H R => ?_, fun i H x H2 N ρ g σ d hd R y => ?_⟩
  · obtain ⟨vs, sq, rs⟩ := hp.lst R
    exact ⟨vs, rs.length.symm, SqL.of sq⟩
  · obtain ⟨T, x', e1, hT, e2, y⟩ := y
    subst e1 e2
    obtain ⟨vs, sq, rs⟩ := hp.lst R
    obtain ⟨dx, hx, ed⟩ := enumD_get hd
    subst ed
    obtain ⟨v, h1, h2⟩ := rs.get hx
    have := y vs (SqL.of sq)
    rw [h1] at this
    injection this with this
    subst this
    exact pair_rep R hT rfl h2
theorem walkOk_enumT {ds : List D} {p : Addr} (hp : Held c (.tup ds) (.ref p)) (hK : X.K = c.b.K) : WalkOk c (enumD ds) (IteT X.K p) := by
  refine ⟨fun H => ∃ vs, vs.length = ds.length ∧ SqT X.K H p vs, fun i H v H' => ∃ T x, v = .ref T ∧ H T = none ∧ H' = upd H T (.tup [.int (i : Nat), x]) ∧ ∀ vs, SqT X.K H p vs → vs[i]? = some x, ⟨fun i H hi ⟨vs, hl, sq⟩ => ⟨vs, vs[i]'(by rw [enumD_length] at hi; omega), sq, by simp⟩, fun H ⟨vs, hl, sq⟩ => ⟨vs, sq, by rw [enumD_length]; omega⟩, fun i H x H' hi ⟨vs, hl, sq⟩ y => y⟩, fun N ρ g σ H R => ?_, fun i H x H2 N ρ g σ d hd R y => ?_⟩
  · obtain ⟨vs, sq, rs⟩ := hp.tup R
    exact ⟨vs, rs.length.symm, hK ▸ sq⟩
  · obtain ⟨T, x', e1, hT, e2, y⟩ := y
    subst e1 e2
    obtain ⟨vs, sq, rs⟩ := hp.tup R
    obtain ⟨dx, hx, ed⟩ := enumD_get hd
    subst ed
    obtain ⟨v, h1, h2⟩ := rs.get hx
    have := y vs (hK ▸ sq)
    rw [h1] at this
    injection this with this
    subst this
    exact pair_rep R hT rfl h2
def zipD (ds es : List D) : List D := (ds.zip es).map fun q => D.tup [q.1, q.2]
theorem zipD_length (ds es : List D) : (zipD ds es).length = min ds.length es.length := by simp [zipD]
theorem zipD_get {ds es : List D} {i : Nat} {d : D} (h : (zipD ds es)[i]? = some d) : ∃ x y, ds[i]? = some x ∧ es[i]? = some y ∧ d = .tup [x, y] := by
  unfold zipD at h
  rw [List.getElem?_map] at h
  cases q : (ds.zip es)[i]? with
  | none => rw [q] at h; cases h
  | some p =>
    rw [q] at h
    injection h with h
    obtain ⟨h1, h2⟩ := List.getElem?_zip_eq_some.mp q
    exact ⟨p.1, p.2, h1, h2, h.symm⟩
theorem walkOk_zipT {ds es : List D} {p q : Addr} (hp : Held c (.tup ds) (.ref p)) (hq : Held c (.tup es) (.ref q)) (hK : X.K = c.b.K) : WalkOk c (zipD ds es) (RZ.ItzT X.K p q) := by
  refine ⟨fun H => ∃ vs us, vs.length = ds.length ∧ us.length = es.length ∧ SqT X.K H p vs ∧ SqT X.K H q us, fun i H v H' => ∃ T x y, v = .ref T ∧ H T = none ∧ H' = upd H T (.tup [x, y]) ∧ (∀ vs, SqT X.K H p vs → vs[i]? = some x) ∧ ∀ us, SqT X.K H q us → us[i]? = some y,
    ⟨fun i H hi ⟨vs, us, hl, hl2, sq, sq2⟩ => ⟨vs, us, vs[i]'(by rw [zipD_length] at hi; omega), us[i]'(by rw [zipD_length] at hi; omega), sq, sq2, by simp, by simp⟩, fun H ⟨vs, us, hl, hl2, sq, sq2⟩ => ⟨vs, us, sq, sq2, by rw [zipD_length]; omega⟩, fun i H x H' hi _ y => y⟩, fun N ρ g σ H R => ?_, fun i H x H2 N ρ g σ d hd R y => ?_⟩
  · obtain ⟨vs, sq, rs⟩ := hp.tup R
    obtain ⟨us, sq2, rs2⟩ := hq.tup R
    exact ⟨vs, us, rs.length.symm, rs2.length.symm, hK ▸ sq, hK ▸ sq2⟩
  · obtain ⟨T, x', y', e1, hT, e2, y1, y2⟩ := y
    subst e1 e2
    obtain ⟨vs, sq, rs⟩ := hp.tup R
    obtain ⟨us, sq2, rs2⟩ := hq.tup R
    obtain ⟨dx, dy, hx, hy, ed⟩ := zipD_get hd
    subst ed
    obtain ⟨v, h1, h2⟩ := rs.get hx
    obtain ⟨v2, h3, h4⟩ := rs2.get hy
    have := y1 vs (hK ▸ sq)
    rw [h1] at this
    injection this with this
    subst this
    have := y2 us (hK ▸ sq2)
    rw [h3] at this
    injection this with this
    subst this
    exact pair_rep R hT h2 h4

/-! ### iterables -/
def iAny (K : PySem.W.Frag) (tl : TE) : TI := fun σ H R => tl σ H fun x H1 => (∃ a xs, x = .ref a ∧ SqL K H1 a xs ∧ R (Itl K a) H1) ∨ (∃ a xs, x = .ref a ∧ SqT K H1 a xs ∧ R (Itt K a) H1) ∨ ∃ z, x = .str z ∧ R (Its z) H1
theorem pi_any {tg l : Expr} {tl : TE} (hl : PE X l tl) : PI X tg l (iAny X.K tl) := by
  refine ⟨fun pins s σ H R I h => ?_⟩
  refine thn (hl.run pins s σ H _ I h) fun v s1 ⟨x, H1, I1, r1, q1⟩ => ?_
  rcases q1 with ⟨a, xs, e, hq, q⟩ | ⟨a, xs, e, hq, q⟩ | ⟨z, e, q⟩
  · subst e
    cases r1
    obtain ⟨its, rv, p, hz⟩ := I1.list hq
    refine wpAny_pyIter_list p.isList ?_
    refine ⟨s1.heap.objs.size, [s1.heap.objs.size], _, _, H1, rfl, I1.kept (t' := s1.toks) fun b o e => Heap.get?_push_of_some _ e, turn_list a _, ⟨_, Heap.get?_push_size _ rfl, rfl, rfl⟩, fun b hb => ?_, q⟩
    have e : b = s1.heap.objs.size := by simpa using hb
    subst e
    exact I1.fpOk (Nat.le_refl _) (I1.hok.fresh (Nat.le_refl _))
  · subst e
    cases r1
    obtain ⟨its, rv, p, hz⟩ := I1.tuple hq
    refine wpAny_pyIter_tuple (show s1.heap.IsTuple a its.toArray from p) ?_
    refine ⟨s1.heap.objs.size, [s1.heap.objs.size], _, _, H1, rfl, I1.kept (t' := s1.toks) fun b o e => Heap.get?_push_of_some _ e, turn_tuple a _, ⟨_, Heap.get?_push_size _ rfl, rfl, rfl⟩, fun b hb => ?_, q⟩
    have e : b = s1.heap.objs.size := by simpa using hb
    subst e
    exact I1.fpOk (Nat.le_refl _) (I1.hok.fresh (Nat.le_refl _))
  · subst e
    obtain ⟨t, rfl⟩ := r1
    cases ha : z.cps.all (· < 128)
    · exact wpAny_pyIter_wide ha (pi_one (tk := s1.toks) I1 _ (turn_str _ z t "str_iterator" (.inr rfl)) ⟨_, Heap.get?_push_size _ rfl, rfl, rfl⟩ q)
    · exact wpAny_pyIter_ascii ha (pi_one (tk := s1.toks) I1 _ (turn_str _ z t "str_ascii_iterator" (.inl rfl)) ⟨_, Heap.get?_push_size _ rfl, rfl, rfl⟩ q)
def iEnumAny (K : PySem.W.Frag) (te : TE) : TI := fun σ H R => te σ H fun x H1 => (∃ a xs, x = .ref a ∧ SqL K H1 a xs ∧ R (Ite K a) H1) ∨ (∃ a xs, x = .ref a ∧ SqT K H1 a xs ∧ R (IteT K a) H1)
theorem pi_enumAny {te : TE} {p tpos : Pos} {elts : List Expr} {kk : Nat} (hg : Gl X "enumerate") (hm : X.mg "enumerate" = none) (he : PE X e te) (hs : starEach [e] X.env = [(false, eval e X.env)] := by rfl) :
    PI X (.Tuple elts kk tpos) (.Call (.Name "enumerate" p) [e] [] pos) (iEnumAny X.K te) := by
  have ha : PA X [e] (tCons te tNil) := pa_cons he pa_nil hs
  refine ⟨fun pins s σ H R I h => ?_⟩
  refine Call_ (ld_blt I hg hm boot_enumerate (PyProof.Rows.callWith_type1 (thn (ha.run pos pins s σ H (fun vs H1 => match vs with | [x] => ((∃ a xs, x = .ref a ∧ SqL X.K H1 a xs ∧ R (Ite X.K a) H1) ∨ (∃ a xs, x = .ref a ∧ SqT X.K H1 a xs ∧ R (IteT X.K a) H1)) | _ => False) I h) fun us s1 ⟨vs, H1, I1, r1, q1⟩ => ?_) hs rfl))
  match vs, q1 with
  | [x], q1 =>
    obtain ⟨u, e1, rx⟩ := vals1 r1
    subst e1
    rcases q1 with ⟨a, xs, e, hq, q⟩ | ⟨a, xs, e, hq, q⟩
    · subst e
      cases rx
      obtain ⟨its, rv, p', hz⟩ := I1.list hq
      refine call_enumerate_list p'.isList fun h' he hit hsz hk => wpAny_pyIter_enum he ?_
      have I2 : Inv X pins σ H1 { s1 with heap := h' } := I1.kept (t' := s1.toks) hk
      refine ⟨s1.heap.objs.size + 1, [s1.heap.objs.size + 1, s1.heap.objs.size], _, _, H1, rfl, I2, turn_enum a (s1.heap.objs.size + 1) s1.heap.objs.size, ⟨⟨.none, he⟩, hit, Nat.succ_ne_self _⟩, fun b hb => ?_, q⟩
      have e' : b = s1.heap.objs.size + 1 ∨ b = s1.heap.objs.size := by simpa using hb
      have hle : s1.heap.objs.size ≤ b := by
        rcases e' with z | z
        · rw [z]; exact Nat.le_add_right _ _
        · rw [z]; exact Nat.le_refl _
      exact I1.fpOk hle (I1.hok.fresh hle)
    · subst e
      cases rx
      obtain ⟨its, rv, p', hz⟩ := I1.tuple hq
      refine enum_begins1 (begins_tuple a its.toArray) p' fun h' he hit hsz hk => wpAny_pyIter_enum he ?_
      have I2 : Inv X pins σ H1 { s1 with heap := h' } := I1.kept (t' := s1.toks) hk
      have hal : a < s1.heap.objs.size := by obtain ⟨o, ho, _⟩ := p'; exact Heap.lt_size ho
      refine ⟨s1.heap.objs.size + 1, [s1.heap.objs.size + 1, s1.heap.objs.size], _, _, H1, rfl, I2, turn_enumT a (s1.heap.objs.size + 1) s1.heap.objs.size (Nat.ne_of_lt (Nat.lt_succ_of_lt hal)) (Nat.ne_of_lt hal), ⟨⟨.none, he⟩, ⟨_, hit, rfl, rfl⟩, Nat.succ_ne_self _⟩, fun b hb => ?_, q⟩
      have e' : b = s1.heap.objs.size + 1 ∨ b = s1.heap.objs.size := by simpa using hb
      have hle : s1.heap.objs.size ≤ b := by
        rcases e' with z | z
        · rw [z]; exact Nat.le_add_right _ _
        · rw [z]; exact Nat.le_refl _
      exact I1.fpOk hle (I1.hok.fresh hle)
/-- what a for walks of a value -/
@[simp] def oIter : D → (List D → Prop) → Prop
  | .tup ds, Q => Q ds
  | .lst ds, Q => Q ds
  | .str z, Q => Q (signs z)
  | _, _ => False
theorem oIter_mono : ∀ d Q Q', (∀ d, Q d → Q' d) → oIter d Q → oIter d Q' := fun d Q Q' w q => by
  cases d <;> first | exact q.elim | exact w _ q
@[simp] def tItT {G : Type} (t : TTE G) : TTI G := fun ρ g ex Q => t ρ g ex fun d g' => oIter d fun its => Q its g'
theorem it_any {tg : Expr} {zs : List Nat} (he : PSrc c X zs e t) : PIt c X zs tg e (tItT t) :=
  ⟨fun ρ g ex Q Q' w q => he.mono _ _ _ _ _ (fun d g' q => oIter_mono _ _ _ (fun its q => w _ _ q) q) q,
   fun ex ok => PI.weak (pi_any (he.run ex ok)) fun σ H R ⟨N, ρ, g, R0, q⟩ => ⟨N, ρ, g, R0, he.mono _ _ _ _ _ (fun d g' q v H' Z pf hz R' th k hd => by
    cases d with
    | tup ds =>
      obtain ⟨p, vs, e, _, sq, rs⟩ := hd.rep R'
      subst e
      exact .inr (.inl ⟨p, vs, rfl, ok.hK ▸ sq, q H' _ Z pf hz R' th k (walkOk_tup hd ok.hK)⟩)
    | lst ds =>
      obtain ⟨p, vs, e, _, sq, rs⟩ := hd.rep R'
      subst e
      exact .inl ⟨p, vs, rfl, SqL.of sq, q H' _ Z pf hz R' th k (walkOk_lst hd)⟩
    | str z =>
      have e : v = .str z := hd.rep R'
      subst e
      exact .inr (.inr ⟨z, rfl, q H' _ Z pf hz R' th k walkOk_str⟩)
    | _ => exact q.elim) q⟩⟩
@[simp] def oIterE : D → (List D → Prop) → Prop
  | .tup ds, Q => Q (enumD ds)
  | .lst ds, Q => Q (enumD ds)
  | _, _ => False
@[simp] def tItE {G : Type} (t : TTE G) : TTI G := fun ρ g ex Q => t ρ g ex fun d g' => oIterE d fun its => Q its g'
theorem it_enum {zs : List Nat} {p tpos : Pos} {elts : List Expr} {kk : Nat} (he : PSrc c X zs e t) (hm : X.mg "enumerate" = none) (hg : Gl X "enumerate" := by rfl) (hs : starEach [e] X.env = [(false, eval e X.env)] := by rfl) : PIt c X zs (.Tuple elts kk tpos) (.Call (.Name "enumerate" p) [e] [] pos) (tItE t) :=
  ⟨fun ρ g ex Q Q' w q => he.mono _ _ _ _ _ (fun d g' q => by cases d <;> first | exact q.elim | exact w _ _ q) q,
   fun ex ok => PI.weak (pi_enumAny hg hm (he.run ex ok) hs) fun σ H R ⟨N, ρ, g, R0, q⟩ => ⟨N, ρ, g, R0, he.mono _ _ _ _ _ (fun d g' q v H' Z pf hz R' th k hd => by
    cases d with
    | tup ds =>
      obtain ⟨p, vs, e, _, sq, rs⟩ := hd.rep R'
      subst e
      exact .inr ⟨p, vs, rfl, ok.hK ▸ sq, q H' _ Z pf hz R' th k (walkOk_enumT hd ok.hK)⟩
    | lst ds =>
      obtain ⟨p, vs, e, _, sq, rs⟩ := hd.rep R'
      subst e
      exact .inl ⟨p, vs, rfl, SqL.of sq, q H' _ Z pf hz R' th k (walkOk_enumL hd)⟩
    | _ => exact q.elim) q⟩⟩
def Rng62 (i : Int) : Prop := -(2 ^ 62) ≤ i ∧ i < 2 ^ 62
@[simp] def tItR1 {G : Type} (t : TTE G) : TTI G := fun ρ g ex Q => t ρ g ex fun d g' => ∃ j, d = .int j ∧ Rng62 j ∧ Q (rngD 0 j.toNat) g'
theorem it_range1 {tg : Expr} {p : Pos} (he : PEt c s X e t) (hm : X.mg "range" = none) (hg : Gl X "range" := by rfl) (hs : starEach [e] X.env = [(false, eval e X.env)] := by rfl) : PIt c X [] tg (.Call (.Name "range" p) [e] [] pos) (tItR1 t) :=
  ⟨fun ρ g ex Q Q' w q => he.mono _ _ _ _ _ (fun d g' ⟨j, e, b, q⟩ => ⟨j, e, b, w _ _ q⟩) q,
   fun ex ok => PI.weak (pi_range1 hg hm (pa_cons (he.run ex ok) pa_nil hs) hs) fun σ H R ⟨N, ρ, g, R0, q⟩ => ⟨N, ρ, g, R0, he.mono _ _ _ _ _ (fun d g' ⟨j, e, b, q⟩ v H' R' th k r => by
    subst e
    have e : v = .int j := r.tob
    subst e
    exact ⟨j, rfl, b.1, b.2, q H' _ [] [] (fun z hz => nomatch hz) (R'.ext _ (fun z hz => nomatch hz) fun z hz => nomatch hz) th k walkOk_rng⟩) q⟩⟩
@[simp] def tItR2 {G : Type} (ta tb : TTE G) : TTI G := fun ρ g ex Q => ta ρ g ex fun d g1 => tb ρ g1 ex fun d2 g' => ∃ i j, d = .int i ∧ d2 = .int j ∧ (Rng62 i ∧ Rng62 j) ∧ Q (rngD i (j - i).toNat) g'
theorem it_range2 {tg : Expr} {p : Pos} {s1 s2 : S} (ha : PEt c s1 X a ta) (hb : PEt c s2 X b' tb) (hm : X.mg "range" = none) (hg : Gl X "range" := by rfl) (hs : starEach [a, b'] X.env = [(false, eval a X.env), (false, eval b' X.env)] := by rfl) (hs2 : starEach [b'] X.env = [(false, eval b' X.env)] := by rfl) :
    PIt c X [] tg (.Call (.Name "range" p) [a, b'] [] pos) (tItR2 ta tb) :=
  ⟨fun ρ g ex Q Q' w q => ha.mono _ _ _ _ _ (fun d g1 q => hb.mono _ _ _ _ _ (fun d2 g' ⟨i, j, e, e2, b, q⟩ => ⟨i, j, e, e2, b, w _ _ q⟩) q) q,
   fun ex ok => PI.weak (pi_range2 hg hm (pa_cons (ha.run ex ok) (pa_cons (hb.run ex ok) pa_nil hs2) (by rw [hs, hs2])) hs hs2) fun σ H R ⟨N, ρ, g, R0, q⟩ => ⟨N, ρ, g, R0, ha.mono _ _ _ _ _ (fun d g1 q v H1 R1 th1 k1 r1 =>
    ⟨N, ρ, g1, R1, hb.mono _ _ _ _ _ (fun d2 g' ⟨i, j, e, e2, b, q'⟩ v2 H' R' th k r => by
      subst e e2
      have e : v = .int i := r1.tob
      have e2 : v2 = .int j := r.tob
      subst e e2
      exact ⟨i, j, rfl, ⟨b.1.1, b.1.2, b.2.1, b.2.2⟩, q' H' _ [] [] (fun z hz => nomatch hz) (R'.ext _ (fun z hz => nomatch hz) fun z hz => nomatch hz) (fun a z => th a (th1 a z)) (k1.trans k) walkOk_rng⟩) q⟩) q⟩⟩

/-! ### for -/
def forL {G : Type} (gt : TTG) (tb : TTS G) (TD : TEnds G) (ex : TX G) : List D → Rho → G → Prop
  | [], ρ, g => TD.nx ρ g
  | d :: ds, ρ, g => gt d ρ fun ρ' => tb { TD with nx := forL gt tb TD ex ds, ct := forL gt tb TD ex ds, bk := TD.nx } ex ρ' g
@[simp] def tForT {G : Type} (ti : TTI G) (gt : TTG) (tb : TTS G) : TTS G := fun TD ex ρ g => ti ρ g ex fun its g' => forL gt tb TD ex its ρ g'
theorem XOk.ext {ex : TX c.b.G} {zs : List Nat} {Z : List (Nat × V × D)} {pf : List (D × V)} {hz : ∀ z ∈ Z, z.1 ∈ zs} (ok : XOk X c ex) : XOk X (c.ext zs Z pf hz) ex :=
  ⟨ok.takes.imp fun cls d σ H ⟨N, ρ, g, cn, ns, ds, dd, fs, R, h⟩ => ⟨N, ρ, g, cn, ns, ds, dd, fs, R.unext, h⟩, ok.pass, ok.hK, ok.units⟩
theorem st_for {tg iter : Expr} {body : List Stmt} {zs : List Nat} {ti : TTI c.b.G} {gt : TTG} {tb : TTS c.b.G} (hi : PIt c X zs tg iter ti) (hg : ∀ Z pf hz, PGt (c.ext zs Z pf hz) X (allV X) tg gt) (hb : ∀ Z pf hz, PSst (c.ext zs Z pf hz) X body tb)
    (hc : X.calm = true := by rfl) (hs : ∀ x, foldedSetIterable iter X.env x = pure x := by intro _; rfl) : PSt c X (.For tg iter body [] pos) (tForT ti gt tb) :=
  ⟨fun ex ok => by
    have hG : PG X tg (fun v σ H Q => ∃ Z pf hz, liftG (c.ext zs Z pf hz) (allV X) gt v σ H Q) := ⟨fun pins s σ H v u Q I r ⟨Z, pf, hz, q⟩ => ((hg Z pf hz).run ok.hK).run pins s σ H v u Q I r q⟩
    have hB : PSs X body (fun D σ H => ∃ Z pf hz, liftS (c.ext zs Z pf hz) tb ex D σ H) := ⟨fun pins s σ H D I ⟨Z, pf, hz, q⟩ => ((hb Z pf hz).run ex ok.ext).run pins s σ H D I q⟩
    refine PS.weak (ps_for ok.pass hc (hi.run ex ok) hG hB hs) fun D σ H ⟨N, ρ, g, TD, R, q, F⟩ => ?_
    refine ⟨N, ρ, g, R, hi.mono _ _ _ _ _ (fun its g' q H1 J Z pf hz R1 th k wk => ?_) q⟩
    obtain ⟨G, Y, w, hG1, hY⟩ := wk.ok
    refine for_it (g := fun v σ H Q => ∃ Z pf hz, liftG (c.ext zs Z pf hz) (allV X) gt v σ H Q) (tb := fun D σ H => ∃ Z pf hz, liftS (c.ext zs Z pf hz) tb ex D σ H) (D := D) w (fun i σ H => ∃ N ρ g, Rn (c.ext zs Z pf hz) N ρ g σ H ∧ forL gt tb TD ex (its.drop i) ρ g) ⟨N, ρ, g', R1, q⟩ (fun i σ H hi ⟨N, ρ, g, R, _⟩ => hG1 _ _ _ _ _ R) (fun i x σ H H2 hi ⟨N, ρ, g, R, q⟩ y => ?_) fun σ H ⟨N, ρ, g, R, q⟩ => ?_
    · have hd : its[i]? = some its[i] := by simp [hi]
      obtain ⟨sm, rx⟩ := hY i H x H2 N ρ g σ _ hd R y
      rw [List.drop_eq_getElem_cons hi] at q
      refine ⟨Z, pf, hz, N, ρ, g, its[i], R.same sm, rx, (hg Z pf hz).mono _ _ _ _ (fun ρ' q σ' R' _ => ?_) q⟩
      refine ⟨Z, pf, hz, N, ρ', g, _, R', q, ⟨fun N ρ g σ H R q => ⟨N, ρ, g, R, q⟩, fun N ρ g σ H R q => F.nx _ _ _ _ _ R.unext q, fun N ρ g σ H R q => ⟨N, ρ, g, R, q⟩, fun N ρ g σ H d v R r q => F.rt _ _ _ _ _ _ _ R.unext r q⟩⟩
    · rw [List.drop_length] at q
      exact F.nx _ _ _ _ _ R.unext q⟩

/-! ### comprehensions -/
def noX {G : Type} : TX G := fun _ _ _ _ _ => False
structure PTst (c : C) (X : Cx) (ifs : List Expr) (t : TTB c.b.G) : Prop where
  mono : ∀ ρ g ex Q Q', (∀ d g, Q d g → Q' d g) → t ρ g ex Q → t ρ g ex Q'
  run : ∀ ex, XOk X c ex → PTs X ifs (liftB c t ex)
@[simp] def tYesT {G : Type} : TTB G := fun _ g _ Q => Q true g
theorem PTs.weak {ifs : List Expr} {t t' : TT} (h : PTs X ifs t) (w : ∀ σ H Q, t' σ H Q → t σ H Q) : PTs X ifs t' := ⟨fun pins s σ H Q I q => h.run pins s σ H Q I (w _ _ _ q)⟩
theorem tt_nil : PTst c X [] tYesT := ⟨fun ρ g ex Q Q' w q => w _ _ q, fun ex ok => PTs.weak pts_nil fun σ H Q ⟨N, ρ, g, R, q⟩ => q H R (fun _ z => z) .refl⟩
theorem tt_one {tc : TTB c.b.G} (h : PBt c X e tc) : PTst c X [e] tc := ⟨h.mono, fun ex ok => pts_one (h.run ex ok)⟩
def wipeR (ρ : Rho) : List Nat → Rho
  | [] => ρ
  | v :: vs => (wipeR ρ vs).set v none
theorem wipeR_length (ρ : Rho) : ∀ vs : List Nat, (wipeR ρ vs).length = ρ.length
  | [] => rfl
  | v :: vs => by unfold wipeR; rw [List.length_set, wipeR_length ρ vs]
theorem wipeR_some {ρ : Rho} {i : Nat} {x : D} : ∀ {vs : List Nat}, (wipeR ρ vs)[i]? = some (some x) → ρ[i]? = some (some x) ∧ i ∉ vs
  | [], h => ⟨h, by simp⟩
  | v :: vs, h => by
    unfold wipeR at h
    rcases get_set h with ⟨_, e⟩ | ⟨e1, e2⟩
    · cases e
    · obtain ⟨h1, h2⟩ := wipeR_some e2
      exact ⟨h1, by simp only [List.mem_cons, not_or]; exact ⟨e1, h2⟩⟩
theorem wipeR_out {ρ : Rho} {i : Nat} : ∀ {vs : List Nat}, i ∉ vs → (wipeR ρ vs)[i]? = ρ[i]?
  | [], _ => rfl
  | v :: vs, h => by
    unfold wipeR
    simp only [List.mem_cons, not_or] at h
    rw [List.getElem?_set_ne (Ne.symm h.1)]
    exact wipeR_out h.2
theorem Rn.wiped {N : Addr → Prop} {ρ : Rho} {g : c.b.G} {σ : L2.St} {H : Hp} (R : Rn c N ρ g σ H) (vs : List Nat) (hv : ∀ v ∈ vs, v ∉ c.zk) : Rn c N (wipeR ρ vs) g (wipe σ vs) H :=
  ⟨R.gh, R.keep, R.n0, R.ng, R.nt, by rw [wipe_length, wipeR_length]; exact R.len, fun i d e => by
    obtain ⟨e1, e2⟩ := wipeR_some e
    obtain ⟨v, h1, h2⟩ := R.slot i d e1
    exact ⟨v, by rw [wipe_out e2]; exact h1, h2⟩, fun i hi d e ht => by
    obtain ⟨e1, e2⟩ := wipeR_some e
    obtain ⟨p, h1, h2, h3, h4⟩ := R.own i hi d e1 ht
    refine ⟨p, by rw [wipe_out e2]; exact h1, h2, h3, fun j d' hj ej tj z => ?_⟩
    obtain ⟨e3, e4⟩ := wipeR_some ej
    rw [wipe_out e4] at z
    exact h4 j d' hj e3 tj z, fun z hz => by
    obtain ⟨h1, h2⟩ := R.frz z hz
    have hn : z.1 ∉ vs := fun q => hv _ q (c.hZ z hz)
    exact ⟨by rw [wipe_out hn]; exact h1, by rw [wipeR_out hn]; exact h2⟩, R.pin⟩
/-- a new object that only we know is on top of N -/
theorem Rn.more {N : Addr → Prop} {ρ : Rho} {g g' : c.b.G} {σ : L2.St} {H H' : Hp} {p : Addr} (R : Rn c N ρ g σ H) (hp : H p = none) (hp' : H' p ≠ none) (k : Keep c.b H H') (hg : c.b.Φ g' H') (nt : ∀ a, H a ≠ none → H' a ≠ none) : Rn c (fun a => N a ∨ a = p) ρ g' σ H' := by
  have kn : ∀ a, (N a ∨ a = p) → N a ∨ H a = none := fun a z => z.imp id fun z => by rw [z]; exact hp
  exact ⟨hg, fun a o e g f => k a o (R.keep a o e g f) g, fun a z => .inl (R.n0 a z), fun a z => .inl (R.ng a z), fun a z => z.elim (fun z => nt a (R.nt a z)) fun z => z ▸ hp', R.len, fun i d e => by
    obtain ⟨v, h1, h2⟩ := R.slot i d e
    refine ⟨v, h1, ?_⟩
    cases d with
    | lst ds => obtain ⟨p', vs, e5, g5, q5, r5⟩ := h2; exact ⟨p', vs, e5, g5, k _ _ q5 g5, r5.stay k.stay kn⟩
    | sel ax cn ns ds => obtain ⟨p', dx, fs, e5, g5, q5, f5, r5⟩ := h2; exact ⟨p', dx, fs, e5, g5, k _ _ q5 g5, f5, r5.stay k.stay kn⟩
    | dct w kd ds => obtain ⟨p', es, e5, g5, q5, f5, r5, r6⟩ := h2; exact ⟨p', es, e5, g5, k _ _ q5 g5, f5, r5.stay k.stay kn, r6.stay k.stay kn⟩
    | _ => exact Rep.stay (d := _) k.stay kn h2, fun i hi d e ht => let ⟨p, h1, h2, h3, h4⟩ := R.own i hi d e ht; ⟨p, h1, h2, .inl h3, h4⟩, R.frz, fun z hz => (R.pin z hz).stay k.stay kn⟩
/-- the turns of a comprehension -/
def lcL {G : Type} (gt : TTG) (tt : TTB G) (te : TTE G) (ρ : Rho) (Q : List D → G → Prop) : List D → List D → G → Prop
  | [], acc, g => Q acc g
  | d :: ds, acc, g => gt d ρ fun ρ' => tt ρ' g noX fun k g1 => if k = true then te ρ' g1 noX fun y g2 => lcL gt tt te ρ Q ds (acc ++ [y]) g2 else lcL gt tt te ρ Q ds acc g1
theorem lcL_mono {G : Type} {gt : TTG} {tt : TTB G} {te : TTE G} {ρ : Rho} {Q Q' : List D → G → Prop} (hg : ∀ d ρ Q Q', (∀ ρ, Q ρ → Q' ρ) → gt d ρ Q → gt d ρ Q') (ht : ∀ ρ g ex Q Q', (∀ d g, Q d g → Q' d g) → tt ρ g ex Q → tt ρ g ex Q') (he : ∀ ρ g ex Q Q', (∀ d g, Q d g → Q' d g) → te ρ g ex Q → te ρ g ex Q')
    (w : ∀ ds g, Q ds g → Q' ds g) : ∀ (ds acc : List D) (g : G), lcL gt tt te ρ Q ds acc g → lcL gt tt te ρ Q' ds acc g
  | [], acc, g, q => w _ _ q
  | d :: ds, acc, g, q => hg _ _ _ _ (fun ρ' q => ht _ _ _ _ _ (fun k g1 q => by
    cases k with
    | true => rw [if_pos rfl] at q ⊢; exact he _ _ _ _ _ (fun y g2 q => lcL_mono hg ht he w ds _ _ q) q
    | false => rw [if_neg Bool.false_ne_true] at q ⊢; exact lcL_mono hg ht he w ds _ _ q) q) q
@[simp] def tLcT {G : Type} (ti : TTI G) (gt : TTG) (tt : TTB G) (te : TTE G) (vs : List Nat) : TTE G := fun ρ g ex Q => ti ρ g ex fun its g' => its.length ≤ sizeLine ∧ lcL gt tt te (wipeR ρ vs) (fun ds g2 => Q (.lst ds) g2) its [] g'
end
end TL
set_option Elab.async false
set_option linter.all false
set_option maxRecDepth 100000
set_option maxHeartbeats 4000000
/-! TL9: comprehensions, their soundness. -/
namespace TL
open PySem PySem.Spec PyProof.Rows L2
section
variable {c : C} {X : Cx} {s : S} {e a b' : Expr} {t ta tb : TTE c.b.G} {pos : Pos} {st : Stmt} {rest : List Stmt} {u u1 u2 : TTS c.b.G}
/-- a list of ours that stands in no slot grows -/
theorem Rn.grow {N : Addr → Prop} {ρ : Rho} {g : c.b.G} {σ : L2.St} {H : Hp} {p : Addr} {vs us : List V} (R : Rn c N ρ g σ H) (hp : H p = some (.lst vs)) (hN : N p) (hg : ¬ c.b.Γ p) (h0 : c.H0 p = none ∨ c.Fr p) (no : ∀ (j : Nat) d', ρ[j]? = some (some d') → d'.top = true → σ[j]? ≠ some (some (.ref p))) : Rn c N ρ g σ (upd H p (.lst us)) := by
  have stay : Stay c.b N H (upd H p (.lst us)) := fun a ob ea _ q => by
    refine (upd_ne (fun z => ?_)).trans ea
    subst z
    exact q.elim (fun ⟨xs, w⟩ => nrd_lst hp xs w) fun w => w hN
  have kn : ∀ a, N a → N a ∨ H a = none := fun _ z => .inl z
  refine ⟨c.b.stab _ _ _ R.gh fun a ob ga ea => (upd_ne (fun z => by subst z; exact hg ga)).trans ea, fun a ob ea ga fa => ?_, R.n0, R.ng, fun a na z => ?_, R.len, fun j d2 e2 => ?_, R.own, R.frz, fun z hzz => (R.pin z hzz).stay stay kn⟩
  · refine (upd_ne (fun z => ?_)).trans (R.keep a ob ea ga fa)
    subst z
    exact h0.elim (fun w => by rw [w] at ea; cases ea) fa
  · by_cases q : a = p
    · subst q; rw [upd_same] at z; cases z
    · rw [upd_ne q] at z; exact R.nt a na z
  · obtain ⟨v, h5, h6⟩ := R.slot j d2 e2
    refine ⟨v, h5, ?_⟩
    cases d2 with
    | lst ds =>
      obtain ⟨p2, vs, e5, g5, q5, r5⟩ := h6
      refine ⟨p2, vs, e5, g5, (upd_ne (fun z => ?_)).trans q5, r5.stay stay kn⟩
      subst z
      exact no j _ e2 rfl (by rw [h5, e5])
    | sel ax cn ns ds =>
      obtain ⟨p2, dx, fs, e5, g5, q5, f5, r5⟩ := h6
      refine ⟨p2, dx, fs, e5, g5, (upd_ne (fun z => ?_)).trans q5, f5, r5.stay stay kn⟩
      subst z
      exact no j _ e2 rfl (by rw [h5, e5])
    | dct w kd ds =>
      obtain ⟨p2, es, e5, g5, q5, f5, r5, r6⟩ := h6
      refine ⟨p2, es, e5, g5, (upd_ne (fun z => ?_)).trans q5, f5, r5.stay stay kn, r6.stay stay kn⟩
      subst z
      exact no j _ e2 rfl (by rw [h5, e5])
    | _ => exact Rep.stay (d := _) stay kn h6
theorem top_there {N : Addr → Prop} {ρ : Rho} {g : c.b.G} {σ : L2.St} {H : Hp} {p : Addr} (R : Rn c N ρ g σ H) (hp : H p = none) (j : Nat) (d' : D) (e : ρ[j]? = some (some d')) (t : d'.top = true) : σ[j]? ≠ some (some (.ref p)) := fun z => by
  obtain ⟨u, h1, h2⟩ := R.slot j d' e
  rw [z] at h1
  injection h1 with h1
  injection h1 with h1
  subst h1
  cases d' with
  | lst ds => obtain ⟨p', vs, e5, _, q5, _⟩ := h2; injection e5 with e5; subst e5; rw [q5] at hp; cases hp
  | sel ax cn ns ds => obtain ⟨p', dx, fs, e5, _, q5, _⟩ := h2; injection e5 with e5; subst e5; rw [q5] at hp; cases hp
  | dct w kd ds => obtain ⟨p', es, e5, _, q5, _⟩ := h2; injection e5 with e5; subst e5; rw [q5] at hp; cases hp
  | _ => cases t
theorem blk_ok {s : Shared} {H : Hp} {scope : Scope} {cenv : Env} {fp : List Addr} (hK : X.K = c.b.K) (hu : X.A.units + 66 < cLine) : XOk (X.blk s H scope cenv fp) c noX :=
  ⟨fun u s' ⟨_, _, _, _, _, _, _, _, _, _, _, _, _, _, _, _, _, _, _, _, _, _, _, _, _, _, _, _, _, _, w⟩ => w.elim, .never, hK, hu⟩
section
variable {elt tg iter : Expr} {ifs : List Expr} {scope : Scope} {own : List (Str × Nat)} {zs : List Nat} {ti : TTI c.b.G} {gt : TTG} {tt : TTB c.b.G} {te : TTE c.b.G}
structure LcParts (c : C) (X : Cx) (zs : List Nat) (elt tg iter : Expr) (ifs : List Expr) (scope : Scope) (vs : List Nat) (ti : TTI c.b.G) (gt : TTG) (tt : TTB c.b.G) (te : TTE c.b.G) : Prop where
  hi : PIt c X zs tg iter ti
  hg : ∀ Z pf hz s H Ca cl fp, PGt (c.ext zs Z pf hz) (X.blk s H scope (compEnvC scope cl Ca X.env) fp) vs tg gt
  ht : ∀ Z pf hz s H Ca cl fp, PTst (c.ext zs Z pf hz) (X.blk s H scope (compEnvC scope cl Ca X.env) fp) ifs tt
  he : ∀ Z pf hz s H Ca cl fp, PEt (c.ext zs Z pf hz) .r (X.blk s H scope (compEnvC scope cl Ca X.env) fp) elt te
  hv : vs.all (fun v => !(zs ++ c.zk).contains v) = true
theorem LcParts.mono {vs : List Nat} (L : LcParts c X zs elt tg iter ifs scope vs ti gt tt te) (s0 : Shared) : ∀ ρ g ex Q Q', (∀ d g, Q d g → Q' d g) → tLcT ti gt tt te vs ρ g ex Q → tLcT ti gt tt te vs ρ g ex Q' :=
  fun ρ g ex Q Q' w q => L.hi.mono _ _ _ _ _ (fun its g' ⟨hl, q⟩ => ⟨hl, lcL_mono (L.hg [] [] (fun _ h => nomatch h) s0 (fun _ => none) 0 [] []).mono (L.ht [] [] (fun _ h => nomatch h) s0 (fun _ => none) 0 [] []).mono (L.he [] [] (fun _ h => nomatch h) s0 (fun _ => none) 0 [] []).mono (fun ds g q => w _ _ q) _ _ _ q⟩) q
abbrev gU (c : C) (zs vs : List Nat) (gt : TTG) : TG := fun v σ H Q => ∃ Z pf hz, liftG (c.ext zs Z pf hz) vs gt v σ H Q
abbrev bU (c : C) (zs : List Nat) (tt : TTB c.b.G) : TT := fun σ H Q => ∃ Z pf hz, liftB (c.ext zs Z pf hz) tt noX σ H Q
abbrev eU (c : C) (zs : List Nat) (te : TTE c.b.G) : TE := fun σ H Q => ∃ Z pf hz, liftE (c.ext zs Z pf hz) .r te noX σ H Q
theorem lc_lift {vs : List Nat} {ex : TX c.b.G} (L : LcParts c X zs elt tg iter ifs scope vs ti gt tt te) (s0 : Shared) : ∀ σ H Q, liftE c .f (tLcT ti gt tt te vs) ex σ H Q → tLc (liftI c zs ti ex) (gU c zs vs gt) (bU c zs tt) (eU c zs te) vs σ H Q := fun σ Hs Q ⟨N, ρ, g, R, q⟩ => by
  refine ⟨N, ρ, g, R, L.hi.mono _ _ _ _ _ (fun its g' ⟨hl, q⟩ H1 J Z pf hz R1 th k wk => ?_) q⟩
  intro D hD
  obtain ⟨G, Y, w, hG1, hY⟩ := wk.ok
  have R1c := R1.unext
  obtain ⟨fG, fN⟩ := R1c.fresh hD
  have hv : ∀ v ∈ vs, v ∉ (c.ext zs Z pf hz).zk := fun v hvv hm => by
    have := List.all_eq_true.mp L.hv v hvv
    have hm' : (zs ++ c.zk).contains v = true := by simpa using hm
    rw [hm'] at this
    cases this
  have no : ∀ (j : Nat) d', (wipeR ρ vs)[j]? = some (some d') → d'.top = true → (wipe σ vs)[j]? ≠ some (some (.ref D)) := fun j d' e t => by
    obtain ⟨e1, e2⟩ := wipeR_some e
    rw [wipe_out e2]
    exact top_there R1c hD j d' e1 t
  have h0 : c.H0 D = none ∨ c.Fr D := by
    cases q0 : c.H0 D with
    | none => exact .inl rfl
    | some o =>
      refine .inr (Classical.byContradiction fun w => ?_)
      rw [R1c.keep D o q0 fG w] at hD
      cases hD
  have sm0 : Same H1 (upd H1 D (.lst [])) := fun a u e => by rw [upd_ne (ne_of_none e hD)]; exact e
  have gm := (L.hg [] [] (fun _ h => nomatch h) s0 (fun _ => none) 0 [] []).mono
  have tm := (L.ht [] [] (fun _ h => nomatch h) s0 (fun _ => none) 0 [] []).mono
  have em := (L.he [] [] (fun _ h => nomatch h) s0 (fun _ => none) 0 [] []).mono
  refine lc_it (g := gU c zs vs gt) (tt := bU c zs tt) (te := eU c zs te) w
    (fun i H => ∃ g acc us, Rn (c.ext zs Z pf hz) (fun a => N a ∨ a = D) (wipeR ρ vs) g (wipe σ vs) H ∧ H D = some (.lst us) ∧ Reps c.b (fun a => N a ∨ a = D) H acc us ∧ acc.length ≤ i ∧
      lcL gt tt te (wipeR ρ vs) (fun ds g2 => ∀ v H', Rn c N ρ g2 σ H' → (∀ a, Hs a ≠ none → H' a ≠ none) → Keep c.b Hs H' → RepS .f c.b N Hs H' (.lst ds) v → Q v H') (its.drop i) acc g ∧ Keep c.b H1 H ∧ (∀ a, H1 a ≠ none → H a ≠ none))
    ⟨g', [], [], ?_, upd_same, reps_nil, Nat.le_refl _, q, .same sm0, fun a z => same_there sm0 a z⟩ (fun i H hi ⟨g, acc, us, R, _⟩ => hG1 _ _ _ _ _ R) (fun i x H H2 hi ⟨g, acc, us, R, hD2, ra, la, q, kk, tt2⟩ y => ?_) fun H ⟨g, acc, us, R, hD2, ra, la, q, kk, tt2⟩ => ?_
  · exact (R1.wiped vs hv).more hD (by rw [upd_same]; exact fun z => by cases z) (.same sm0) (c.b.stab _ _ _ R1.gh fun a o _ e => sm0 a o e) (fun a z => same_there sm0 a z)
  · have hd : its[i]? = some its[i] := by simp [hi]
    obtain ⟨sm, rx⟩ := hY i H x H2 _ _ g _ _ hd R y
    rw [List.drop_eq_getElem_cons hi] at q
    refine ⟨Z, pf, hz, _, _, g, its[i], R.same sm, rx, gm _ _ _ _ (fun ρ' q σ2 R2 weq => ⟨by rw [weq, wipe_wipe], Z, pf, hz, _, _, g, R2, tm _ _ _ _ _ (fun kb g1 q H3 R3 t3 k3 => ?_) q⟩) q⟩
    have k13 : Keep c.b H H3 := (Keep.same sm).trans k3
    have t13 : ∀ a, H a ≠ none → H3 a ≠ none := fun a z => t3 a (same_there sm a z)
    cases kb with
    | true =>
      rw [if_pos rfl] at q
      refine iteT ?_
      refine ⟨Z, pf, hz, _, _, g1, R3, em _ _ _ _ _ (fun yd g2 q yv H4 R4 t4 k4 r4 => ?_) q⟩
      have k14 : Keep c.b H H4 := k13.trans k4
      have hD4 : H4 D = some (.lst us) := k14 _ _ hD2 fG
      have Rw : Rn (c.ext zs Z pf hz) (fun a => N a ∨ a = D) (wipeR ρ vs) g2 (wipe σ vs) H4 := R.kept k14 R4.gh R4.nt
      have ra4 := ra.keep k14
      refine ⟨us, hD4, by rw [← ra.length]; omega, g2, acc ++ [yd], us ++ [yv], Rw.grow hD4 (.inr rfl) fG h0 no, upd_same, ?_, by rw [List.length_append]; simp; omega, q, fun a o ea ga => ?_, fun a z => ?_⟩
      · have stay : Stay c.b (fun a => N a ∨ a = D) H4 (upd H4 D (.lst (us ++ [yv]))) := fun a ob ea _ q => by
          refine (upd_ne (fun z => ?_)).trans ea
          subst z
          exact q.elim (fun ⟨xs, w⟩ => nrd_lst hD4 xs w) fun w => w (.inr rfl)
        exact (ra4.append (reps_cons (show Rep c.b (fun a => N a ∨ a = D) H4 yd yv from r4) reps_nil)).stay stay fun a z => .inl z
      · exact (upd_ne (fun z => by subst z; rw [hD] at ea; cases ea)).trans ((kk.trans k14) a o ea ga)
      · by_cases q : a = D
        · subst q; rw [upd_same]; exact fun z => by cases z
        · rw [upd_ne q]; exact t4 a (t13 a (tt2 a z))
    | false =>
      rw [if_neg Bool.false_ne_true] at q
      refine iteF ?_
      exact ⟨g1, acc, us, R.kept k13 R3.gh R3.nt, k13 _ _ hD2 fG, ra.keep k13, Nat.le_succ_of_le la, q, kk.trans k13, fun a z => t13 a (tt2 a z)⟩
  · rw [List.drop_length] at q
    have fin : Rn c N ρ g σ H := R1c.kept kk R.gh fun a z => tt2 a (R1c.nt a z)
    have rl : Reps c.b N H acc us := ra.stay Stay.refl fun a z => .inl (.inl z)
    exact q (.ref D) H fin (fun a z => tt2 a (th a z)) (k.trans kk) ⟨⟨D, us, rfl, fG, fN, hD2, rl⟩, fun _ => ⟨D, rfl, back th D hD, D, us, rfl, fG, hD2, ra⟩⟩
theorem et_lc {own : List (Str × Nat)} (L : LcParts c X zs elt tg iter ifs scope (own.map (·.2)) ti gt tt te) (hb : blkC X.N X.env.scope scope own = true := by decide +kernel) (hN : X.N.Nodup := by assumption) (hc : X.calm = true := by rfl) (hs : ∀ x, foldedSetIterable iter X.env x = pure x := by intro _; rfl) :
    PEt c .f X (.ListComp elt [⟨tg, iter, ifs, 0⟩] scope pos) (tLcT ti gt tt te (own.map (·.2))) :=
  ⟨L.mono X.s_0, fun ex ok => PE.weak (pe_lc hc hN (L.hi.run ex ok) (blkOk_by hb)
    (fun s H Ca cl fp => ⟨fun pins s' σ H v u Q I r ⟨Z, pf, hz, q⟩ => ((L.hg Z pf hz s _ Ca cl fp).run ok.hK).run pins s' σ H v u Q I r q⟩)
    (fun s H Ca cl fp => ⟨fun pins s' σ H Q I ⟨Z, pf, hz, q⟩ => ((L.ht Z pf hz s _ Ca cl fp).run noX (blk_ok ok.hK ok.units)).run pins s' σ H Q I q⟩)
    (fun s H Ca cl fp => ⟨fun pins s' σ H Q I ⟨Z, pf, hz, q⟩ => ((L.he Z pf hz s _ Ca cl fp).run noX (blk_ok ok.hK ok.units)).run pins s' σ H Q I q⟩) hs) (lc_lift L X.s_0)⟩
/-- x = [..] on one line -/
theorem st_setLc (i : Nat) {y : Str} {py spos : Pos} {own : List (Str × Nat)} (L : LcParts c X zs elt tg iter ifs scope (own.map (·.2)) ti gt tt te) (hz : c.zk.contains i = false := by rfl) (hy : X.N[i]? = some y := by rfl) (hyl : X.env.scope.names.lookup y = some .local := by rfl)
    (hsw : swapsWith (.ListComp elt [⟨tg, iter, ifs, 0⟩] scope pos) (some (.Name y py)) spos.line X.env = pure true := by exact sw_true rfl rfl rfl (by decide +kernel)) (hb : blkC X.N X.env.scope scope own = true := by decide +kernel) (hN : X.N.Nodup := by assumption) (hc : X.calm = true := by rfl) (hs : ∀ x, foldedSetIterable iter X.env x = pure x := by intro _; rfl) :
    PSt c X (.Assign [.Name y py] (.ListComp elt [⟨tg, iter, ifs, 0⟩] scope pos) spos) (tSetT i (tLcT ti gt tt te (own.map (·.2)))) :=
  ⟨fun ex ok => PS.weak (ps_setLc hc hN hy hyl hsw (L.hi.run ex ok) (blkOk_by hb)
    (fun s H Ca cl fp => ⟨fun pins s' σ H v u Q I r ⟨Z, pf, hz, q⟩ => ((L.hg Z pf hz s _ Ca cl fp).run ok.hK).run pins s' σ H v u Q I r q⟩)
    (fun s H Ca cl fp => ⟨fun pins s' σ H Q I ⟨Z, pf, hz, q⟩ => ((L.ht Z pf hz s _ Ca cl fp).run noX (blk_ok ok.hK ok.units)).run pins s' σ H Q I q⟩)
    (fun s H Ca cl fp => ⟨fun pins s' σ H Q I ⟨Z, pf, hz, q⟩ => ((L.he Z pf hz s _ Ca cl fp).run noX (blk_ok ok.hK ok.units)).run pins s' σ H Q I q⟩) hs) fun D σ H ⟨N, ρ, g, TD, R, q, F⟩ =>
      lc_lift (ex := ex) L X.s_0 σ H _ ⟨N, ρ, g, R, L.mono X.s_0 _ _ _ _ _ (fun d g' q v H' R' th k r => by
        obtain ⟨N', R2⟩ := R.setOwn R' k th r (i := i) (by simpa using hz)
        exact F.nx _ _ _ _ _ R2 q) q⟩⟩
end
end
end TL
set_option Elab.async false
set_option linter.all false
set_option maxRecDepth 100000
set_option maxHeartbeats 4000000
/-! TL10: promises of defs over trees, calls. -/
namespace TL
open PySem PySem.Spec PyProof.Rows L2
abbrev TSpec (G : Type) := List D → G → (D → G → Prop) → (G → Str → List Str → List D → Prop) → Prop
abbrev TSp := (b : B) → TSpec b.G
def OutV (b : B) (N0 : Addr → Prop) (H : Hp) (Q : VK) : D → b.G → Prop := fun d g' => ∀ v H', b.Φ g' H' → (∀ a, H a ≠ none → H' a ≠ none) → Keep b H H' → RepS .f b N0 H H' d v → Q v H'
def OutX (b : B) (N0 : Addr → Prop) (H : Hp) (E : XK) : b.G → Str → List Str → List D → Prop := fun g' cn ns es => ∀ H' dd fvs, b.Φ g' H' → (∀ a, H a ≠ none → H' a ≠ none) → Keep b H H' → H' dd = some (.xd fvs) ∧ ¬ b.Γ dd ∧ ¬ N0 dd → fvs.map (·.1) = ns → Reps b N0 H' es (fvs.map (·.2)) → E (.ref (He.ga b.K cn)) (some dd) H'
def liftSp (K : PySem.W.Frag) (SP : TSp) : Sp := fun vs H Q E => ∃ (b : B) (N0 : Addr → Prop) (g : b.G) (ds : List D), b.K = K ∧ b.Φ g H ∧ (∀ a, b.Γ a → N0 a) ∧ (∀ a, N0 a → H a ≠ none) ∧ RepSs .b b N0 H H ds vs ∧ SP b ds g (OutV b N0 H Q) (OutX b N0 H E)
/-- a promise: how many arguments, what it wants more is had by more -/
structure SpOk (n : Nat) (SP : TSp) : Prop where
  len : ∀ b ds g Q E, SP b ds g Q E → ds.length = n
  mono : ∀ b ds g Q Q' E E', (∀ d g, Q d g → Q' d g) → (∀ g cn ns es, E g cn ns es → E' g cn ns es) → SP b ds g Q E → SP b ds g Q' E'

def startR (N : List Str) (ds : List D) : Rho := ds.map some ++ List.replicate (N.length - ds.length) none
abbrev mkC (b : B) (N0 : Addr → Prop) (M : List Nat) (H : Hp) : C := { b := b, M := M, zk := [], Z := [], H0 := H, N0 := N0, Fr := fun _ => False }
abbrev mkI (b : B) (N0 : Addr → Prop) (M : List Nat) (H : Hp) (x : Addr) : C := { b := b, M := M, zk := [], Z := [], H0 := H, N0 := fun a => N0 a ∨ a = x, Fr := fun a => a = x }
theorem start_get {N : List Str} {ds : List D} {i : Nat} {d : D} (h : (startR N ds)[i]? = some (some d)) : i < ds.length ∧ ds[i]? = some d := by
  unfold startR at h
  by_cases hi : i < ds.length
  · rw [List.getElem?_append_left (by simpa using hi), List.getElem?_map] at h
    cases e : ds[i]? with
    | none => rw [e] at h; cases h
    | some a => rw [e] at h; cases h; exact ⟨hi, rfl⟩
  · rw [List.getElem?_append_right (by simpa using hi), List.getElem?_replicate] at h
    split at h <;> cases h
theorem RepSs.get {s : S} {b : B} {N : Addr → Prop} {H H1 : Hp} {ds : List D} {vs : List V} (h : RepSs s b N H H1 ds vs) : ∀ {i : Nat} {d : D}, ds[i]? = some d → ∃ v, vs[i]? = some v ∧ RepS s b N H H1 d v := by
  induction h with
  | nil => intro i d e; simp at e
  | cons h _ ih =>
    intro i d e
    cases i with
    | zero => simp at e; subst e; exact ⟨_, rfl, h⟩
    | succ i => obtain ⟨v, q1, q2⟩ := ih (i := i) (by simpa using e); exact ⟨v, by simpa using q1, q2⟩
theorem RepSs.append {s : S} {b : B} {N : Addr → Prop} {H H1 : Hp} {ds es : List D} {vs us : List V} (h : RepSs s b N H H1 ds vs) (q : RepSs s b N H H1 es us) : RepSs s b N H H1 (ds ++ es) (vs ++ us) := by
  induction h with
  | nil => exact q
  | cons h _ ih => exact .cons h ih
theorem RepSs.map {s s' : S} {b : B} {N N' : Addr → Prop} {H H1 H' H1' : Hp} {ds : List D} {vs : List V} (w : ∀ d v, RepS s b N H H1 d v → RepS s' b N' H' H1' d v) (h : RepSs s b N H H1 ds vs) : RepSs s' b N' H' H1' ds vs := by
  induction h with
  | nil => exact .nil
  | cons h _ ih => exact .cons (w _ _ h) ih
theorem RepSs.bb {b : B} {N : Addr → Prop} {H H' H1 : Hp} {ds : List D} {vs : List V} (h : RepSs .b b N H H1 ds vs) : RepSs .b b N H' H1 ds vs := by
  induction h with
  | nil => exact .nil
  | cons h _ ih => exact .cons h ih
theorem start_v {N : List Str} {vs : List V} {i : Nat} {v : V} (h : vs[i]? = some v) : (L2.start N vs)[i]? = some (some v) := by
  unfold L2.start
  have hi : i < vs.length := (List.getElem?_eq_some_iff.mp h).1
  rw [List.getElem?_append_left (by simpa using hi), List.getElem?_map, h]; rfl
theorem rn_start {b : B} {N0 : Addr → Prop} {M : List Nat} {H : Hp} {g : b.G} {N : List Str} {ds : List D} {vs : List V} (gh : b.Φ g H) (ng : ∀ a, b.Γ a → N0 a) (nt : ∀ a, N0 a → H a ≠ none) (r : RepSs .b b N0 H H ds vs) (hM : ∀ i ∈ M, ds.length ≤ i) : Rn (mkC b N0 M H) N0 (startR N ds) g (L2.start N vs) H :=
  ⟨gh, fun a o e _ _ => e, fun _ z => z, ng, nt, by unfold L2.start startR; simp [r.length], fun i d e => by
    obtain ⟨_, e2⟩ := start_get e
    obtain ⟨v, q1, q2⟩ := r.get e2
    exact ⟨v, start_v q1, q2⟩, fun i hi d e => by
    obtain ⟨h1, _⟩ := start_get e
    exact absurd h1 (Nat.not_lt.mpr (hM i hi)), fun z hz => (nomatch hz), fun z hz => (nomatch hz)⟩
theorem there_of {c : C} {N : Addr → Prop} {ρ : Rho} {g : c.b.G} {σ : L2.St} {H : Hp} (R : Rn c N ρ g σ H) (hF : ∀ a, c.Fr a → c.N0 a) (a : Addr) (z : c.H0 a ≠ none) : H a ≠ none := by
  by_cases ga : c.b.Γ a
  · exact R.nt a (R.ng a ga)
  · by_cases fa : c.Fr a
    · exact R.nt a (R.n0 a (hF a fa))
    · cases e : c.H0 a with
      | none => exact absurd e z
      | some o => rw [R.keep a o e ga fa]; exact fun w => by cases w

theorem xok_of {k : Nat} {P : Program} {w : World} {K : PySem.W.Frag} {mg : Str → Option Value} {base : Heap} {N : List Str} {qual : Str} {scope : Scope} {f : Addr} {cdv : Value} {A : Around} {outer : List Env} {s : Shared} {H : Hp} {E : XK} {b : B} {N0 : Addr → Prop} {M : List Nat} (hK : b.K = K) (hk : Room k (A.deeper (envOfC qual scope s.heap.objs.size f cdv)))  :
    XOk (cxOf (L2.CX P w) P w K mg base N qual scope f cdv A outer s H E) (mkC b N0 M H) (fun _ g' cn ns es => OutX b N0 H E g' cn ns es) := by
  refine ⟨Takes.imp (takes_of rfl rfl rfl rfl) fun cls d σ H' q => ?_, passes_of rfl, hK.symm, ?_⟩
  · obtain ⟨N', ρ, g, cn, ns, ds, dd, fs, R, e1, e2, e3, e4, e5, e6⟩ := q
    subst e1 e2
    exact e6 H' dd fs R.gh (there_of R fun a z => z.elim) (fun a o e gg => R.keep a o e gg fun w => w) ⟨e3.1, e3.2.1, fun z => e3.2.2 (R.n0 _ z)⟩ e4 (e5.stay Stay.refl fun a z => .inl (R.n0 a z))
  · have := hk.un
    show (A.deeper _).units + 66 < cLine
    omega
theorem fits_of {b : B} {N0 : Addr → Prop} {M : List Nat} {H : Hp} {Q : VK} (D : D → b.G → Prop) (hD : ∀ d g, D d g → OutV b N0 H Q d g) : Fits (mkC b N0 M H) { nx := fun _ g => D .non g, rt := D } { nx := fun _ H' => Q .non H', rt := Q } :=
  ⟨fun N ρ g σ H' R q => hD _ _ q .non H' R.gh (there_of R fun a z => z.elim) (fun a o e gg => R.keep a o e gg fun w => w) ⟨rfl, fun z => by cases z⟩,
   fun _ _ _ _ _ _ q => q.elim, fun _ _ _ _ _ _ q => q.elim,
   fun N ρ g σ H' d v R r q => hD _ _ q v H' R.gh (there_of R fun a z => z.elim) (fun a o e gg => R.keep a o e gg fun w => w) r⟩
section
variable {P : Program} {w : World} {K : PySem.W.Frag} {mg : Str → Option Value} {base : Heap} {x qual : Str} {params : Arguments} {body : List Stmt} {scope : Scope} {dvs : List V} {kws : List (Str × V)} {f : Addr} {fd : FuncData}
/-- what a body wants -/
abbrev VC {G : Type} (t : TTS G) (N : List Str) (ds : List D) (g : G) (Q : D → G → Prop) (E : G → Str → List Str → List D → Prop) : Prop :=
  t { nx := fun _ g => Q .non g, rt := Q } (fun _ => E) (startR N ds) g
/-- THE RULE for a def -/
theorem fn_okT {N ps : List Str} {k : Nat} {SP : TSp} (F : FunD K x qual params body scope dvs kws f fd) (S : FnScope N ps scope) (ok : SpOk ps.length SP) (M : List Nat) (hM : M.all (fun i => decide (ps.length ≤ i)) = true)
    (hbody : ∀ (cdv : Value) (A : Around) (outer : List Env) (s : Shared) (H : Hp) (E : XK) (b : B) (N0 : Addr → Prop), b.K = K → (∀ a, N0 a → H a ≠ none) → Room k (A.deeper (envOfC qual scope s.heap.objs.size f cdv)) →
      ∃ t : TTS b.G, PSst (mkC b N0 M H) (cxOf (L2.CX P w) P w K mg base N qual scope f cdv A outer s H E) body t ∧ ∀ ds g Q X, SP b ds g Q X → VC t N ds g Q X) : FnOk P w K mg base (L2.CX P w) (k + 1) f fd ps (liftSp K SP) :=
  F.ok S (fun vs H Q E ⟨b, N0, g, ds, _, _, _, _, r, q⟩ => by rw [← r.length]; exact ok.len _ _ _ _ _ q) fun cdv A outer s H vs Q E hr ⟨b, N0, g, ds, hK, gh, ng, nt, r, q⟩ => by
    obtain ⟨t, ht, hv⟩ := hbody cdv A outer s H E b N0 hK nt hr
    refine ⟨_, ht.run _ (xok_of hK hr), N0, startR N ds, g, _, rn_start gh ng nt r (fun i hi => ?_), hv ds g _ _ q, fits_of _ fun _ _ z => z⟩
    rw [ok.len _ _ _ _ _ q]
    exact of_decide_eq_true (List.all_eq_true.mp hM i hi)
end

section
variable {c : C} {X : Cx} {s : S} {e o : Expr} {es : List Expr} {ta : TTE c.b.G} {t : TTA c.b.G} {p pos apos : Pos} {k : Nat} {f : Addr} {fd : FuncData} {ps : List Str} {SP : TSp} {dvs : List V} {ds : List Value} {ddvs : List D} {x m cn : Str}
@[simp] def tCallT {b : B} (SP : TSp) (ddvs : List D) (t : TTA b.G) : TTE b.G := fun ρ g ex Q => t ρ g ex fun ds g1 => SP b (ds ++ ddvs) g1 Q fun g' cn ns es => ex ρ g' cn ns es
theorem call_lift {ex : TX c.b.G} {N : Addr → Prop} {ρ : Rho} {g : c.b.G} {σ : L2.St} {H0 H : Hp} {vs : List V} {dds : List D} {Q : VK} {QT : D → c.b.G → Prop} (ok : SpOk ps.length SP) (hK : X.K = c.b.K) (R : Rn c N ρ g σ H) (th : ∀ a, H0 a ≠ none → H a ≠ none) (k : Keep c.b H0 H) (r : RepSs .b c.b N H H dds vs)
    (q : SP c.b dds g QT fun g' cn ns es => ex ρ g' cn ns es) (w : ∀ d g', QT d g' → ∀ v H', Rn c N ρ g' σ H' → (∀ a, H0 a ≠ none → H' a ≠ none) → Keep c.b H0 H' → RepS .f c.b N H0 H' d v → Q v H') : liftSp X.K SP vs H Q (WE (liftX c ex) σ) :=
  ⟨c.b, N, g, dds, hK.symm, R.gh, R.ng, R.nt, r, ok.mono _ _ _ _ _ _ _ (fun d g' q v H' gh th' kp rf => w d g' q v H' (R.kept kp gh fun a z => th' a (R.nt a z)) (fun a z => th' a (th a z)) (k.trans kp) (rf.start fun p z => back th p z))
    (fun g' cn ns es q H' dd fvs gh th' kp e1 e2 r' => ⟨N, ρ, g', cn, ns, es, dd, fvs, R.kept kp gh fun a z => th' a (R.nt a z), rfl, rfl, e1, e2, r', q⟩) q⟩
/-- f(e, ..) -/
theorem et_call (F : FnOk X.prog X.w X.K X.mg X.base (L2.CX X.prog X.w) k f fd ps (liftSp X.K SP)) (ok : SpOk ps.length SP) (hr : Room k X.A) (hm : X.mg x = some (.ref f)) (hk : PySem.W.keepIn X.K (.ref f) = true) (hb : Binds X.K fd ps ds) (hd : Vals dvs ds)
    (hdd : ∀ N H H', RepSs .b c.b N H H' ddvs dvs) (ha : PAt c .b X (e :: es) t) (hg : Gl X x := by rfl) (hdb : (x == ("__debug__" : Str)) = false := by decide) (he : starEach (e :: es) X.env = (false, eval e X.env) :: starEach es X.env := by rfl) (hpl : (backTo pos (starEach es X.env)).any (·.1) = false := by rfl) :
    PEt c .f X (.Call (.Name x p) (e :: es) [] pos) (tCallT SP ddvs t) :=
  ⟨fun ρ g ex Q Q' w q => ha.mono _ _ _ _ _ (fun ds g1 q => ok.mono _ _ _ _ _ _ _ w (fun _ _ _ _ z => z) q) q,
   fun ex xo => PE.weak (pe_callSD F hr hg hm hk hb hd (fun σ => passAt xo.takes σ) (ha.run ex xo) hdb he hpl) fun σ H Q ⟨N, ρ, g, R, q⟩ => ⟨N, ρ, g, R, ha.mono _ _ _ _ _ (fun ds g1 q vs H1 R1 t1 k1 r1 =>
     call_lift ok xo.hK R1 t1 k1 (r1.append (hdd _ _ _)).bb q fun d g' q => q) q⟩⟩
/-! ### methods -/
def tMethSD (C : Addr) (m : Str) (sp : Sp) (dvs : List V) (E : L2.St → XK) (ta : TE) (t : TA) : TE := fun σ H Q => ta σ H fun x H1 => ∃ a dx fs, x = .ref a ∧ H1 a = some (.ins C dx fs) ∧ fs.lookup m = none ∧
  t σ H1 fun vs H2 => sp (x :: (vs ++ dvs)) H2 Q (E σ)
section
variable {CX : CXT} {sp : Sp} {E : L2.St → XK} {C : Addr} {tae : TE} {tt : TA}
theorem pe_methSD {pl : Sem Bool} (he : PE X o tae) (c : Cls X.K C) (hm : Meth X.K C m f) (F : FnOk X.prog X.w X.K X.mg X.base CX k f fd ps sp) (hr : Room k X.A) (hb : Binds X.K fd ps ds) (hd : Vals dvs ds) (hx : ∀ σ, PassesAt CX X σ (E σ)) (ha : PA X (e :: es) tt)
    (hst : starEach (e :: es) X.env = (false, eval e X.env) :: starEach es X.env := by rfl) (hpl : (backTo pos (starEach es X.env)).any (·.1) = false := by rfl)
    (ht : eval (.Call (.Attribute o m apos) (e :: es) [] pos) X.env = (do
      let ov ← eval o X.env
      standAt apos.atName
      let (f, first) ← holding [ov] (getMethod ov m pl)
      callWith pos f first (backTo pos (starEach (e :: es) X.env)) (backToKw pos (keywordEach [] X.env))) := by rfl) :
    PE X (.Call (.Attribute o m apos) (e :: es) [] pos) (tMethSD C m sp dvs E tae tt) := by
  refine ⟨fun pins s σ H Q I h => ?_⟩
  refine PySem.W.methodCall_KW (pl := pl) (thn (he.run pins s σ H _ I h) fun u s1 ⟨x, H1, I1, rx, a, dx, fs, ex, ea, l, q⟩ => ?_) ht
  subst ex
  obtain rfl : u = Value.ref a := rx
  refine getmeth_ok I1 ea c hm l ?_
  refine PySem.W.callWith_K (first := [.ref a]) (h₀ := X.base) I1.ok.mod.kin hm.kp (thn (ha.run pos pins s1 σ H1 _ I1 q) fun us s2 ⟨vs, H2, I2, r, q2⟩ => ⟨I2.kIn, ?_⟩) hst hpl
  exact run_fnSD (us := .ref a :: us) (vs := .ref a :: vs) F hr hb hd (hx σ) I2 (.cons rfl r) q2
theorem pe_methSD0 {pl : Sem Bool} (he : PE X o tae) (c : Cls X.K C) (hm : Meth X.K C m f) (F : FnOk X.prog X.w X.K X.mg X.base CX k f fd ps sp) (hr : Room k X.A) (hb : Binds X.K fd ps ds) (hd : Vals dvs ds) (hx : ∀ σ, PassesAt CX X σ (E σ))
    (ht : eval (.Call (.Attribute o m apos) [] [] pos) X.env = (do
      let ov ← eval o X.env
      standAt apos.atName
      let (f, first) ← holding [ov] (getMethod ov m pl)
      callWith pos f first (backTo pos (starEach [] X.env)) (backToKw pos (keywordEach [] X.env))) := by rfl) :
    PE X (.Call (.Attribute o m apos) [] [] pos) (tMethSD C m sp dvs E tae tNil) := by
  refine ⟨fun pins s σ H Q I h => ?_⟩
  refine PySem.W.methodCall_KW (pl := pl) (thn (he.run pins s σ H _ I h) fun u s1 ⟨x, H1, I1, rx, a, dx, fs, ex, ea, l, q⟩ => ?_) ht
  subst ex
  obtain rfl : u = Value.ref a := rx
  refine getmeth_ok I1 ea c hm l ?_
  exact PySem.W.callWith_K0 (first := [.ref a]) I1.kIn hm.kp (run_fnSD (us := [.ref a]) (vs := [.ref a]) F hr hb hd (hx σ) I1 (.cons rfl .nil) q)
end
@[simp] def oSelf (cn m : Str) : D → Prop
  | .obj cn' ns _ => cn' = cn ∧ ns.contains m = false
  | .sel _ cn' ns _ => cn' = cn ∧ ns.contains m = false
  | _ => False
theorem self_ins {b : B} {N : Addr → Prop} {H : Hp} {d : D} {v : V} (h : oSelf cn m d) (r : RepB b N H d v) : ∃ a dx fs, v = .ref a ∧ H a = some (.ins (He.ga b.K cn) dx fs) ∧ fs.lookup m = none := by
  have hl : ∀ (fs : List (Str × V)) (ns : List Str), fs.map (·.1) = ns → ns.contains m = false → fs.lookup m = none := fun fs ns e q => by
    subst e
    rw [List.lookup_eq_none_iff]
    intro p hp
    have : m ∉ fs.map (·.1) := by simpa using q
    simpa using fun z => this (List.mem_map.mpr ⟨p, hp, z.symm⟩)
  cases d with
  | obj c' ns ds => obtain ⟨p, dx, fs, e, _, _, q, en, _⟩ := r; obtain ⟨rfl, h2⟩ := h; exact ⟨p, dx, fs, e, q, hl fs ns en h2⟩
  | sel ax c' ns ds => obtain ⟨p, dx, fs, e, _, q, en, _⟩ := r; obtain ⟨rfl, h2⟩ := h; exact ⟨p, dx, fs, e, q, hl fs ns en.2 h2⟩
  | _ => exact h.elim
@[simp] def tMethT {b : B} (cn m : Str) (SP : TSp) (ddvs : List D) (ta : TTE b.G) (t : TTA b.G) : TTE b.G := fun ρ g ex Q => ta ρ g ex fun d g1 => oSelf cn m d ∧ t ρ g1 ex fun ds g2 => SP b (d :: (ds ++ ddvs)) g2 Q fun g' cn ns es => ex ρ g' cn ns es
theorem et_meth {pl : Sem Bool} (ho : PEt c s X o ta) (cl : Cls X.K (He.ga X.K cn)) (hm : Meth X.K (He.ga X.K cn) m f) (F : FnOk X.prog X.w X.K X.mg X.base (L2.CX X.prog X.w) k f fd ps (liftSp X.K SP)) (ok : SpOk ps.length SP) (hr : Room k X.A) (hb : Binds X.K fd ps ds) (hd : Vals dvs ds)
    (hdd : ∀ N H H', RepSs .b c.b N H H' ddvs dvs) (ha : PAt c .b X (e :: es) t) (he : starEach (e :: es) X.env = (false, eval e X.env) :: starEach es X.env := by rfl) (hpl : (backTo pos (starEach es X.env)).any (·.1) = false := by rfl)
    (ht : eval (.Call (.Attribute o m apos) (e :: es) [] pos) X.env = (do
      let ov ← eval o X.env
      standAt apos.atName
      let (f, first) ← holding [ov] (getMethod ov m pl)
      callWith pos f first (backTo pos (starEach (e :: es) X.env)) (backToKw pos (keywordEach [] X.env))) := by rfl) :
    PEt c .f X (.Call (.Attribute o m apos) (e :: es) [] pos) (tMethT cn m SP ddvs ta t) :=
  ⟨fun ρ g ex Q Q' w q => ho.mono _ _ _ _ _ (fun d g1 q => ⟨q.1, ha.mono _ _ _ _ _ (fun ds g1 q => ok.mono _ _ _ _ _ _ _ w (fun _ _ _ _ z => z) q) q.2⟩) q,
   fun ex xo => PE.weak (pe_methSD (pl := pl) (ho.run ex xo) cl hm F hr hb hd (fun σ => passAt xo.takes σ) (ha.run ex xo) he hpl ht) fun σ H Q ⟨N, ρ, g, R, q⟩ => ⟨N, ρ, g, R, ho.mono _ _ _ _ _ (fun d g1 ⟨q0, q⟩ v H1 R1 t1 k1 r1 => by
     obtain ⟨a, dx, fs, e1, e2, e3⟩ := self_ins q0 r1.tob
     refine ⟨a, dx, fs, e1, xo.hK ▸ e2, e3, N, ρ, g1, R1, ha.mono _ _ _ _ _ (fun ds g2 q vs H2 R2 t2 k2 r2 => ?_) q⟩
     exact call_lift ok xo.hK R2 (fun a z => t2 a (t1 a z)) (k1.trans k2) (.cons (s := .b) (RepS.tob (r1.keep k2)) (r2.append (hdd _ _ _)).bb) q fun d g' q => q) q⟩⟩
theorem et_meth0 {pl : Sem Bool} (ho : PEt c s X o ta) (cl : Cls X.K (He.ga X.K cn)) (hm : Meth X.K (He.ga X.K cn) m f) (F : FnOk X.prog X.w X.K X.mg X.base (L2.CX X.prog X.w) k f fd ps (liftSp X.K SP)) (ok : SpOk ps.length SP) (hr : Room k X.A) (hb : Binds X.K fd ps ds) (hd : Vals dvs ds)
    (hdd : ∀ N H H', RepSs .b c.b N H H' ddvs dvs)
    (ht : eval (.Call (.Attribute o m apos) [] [] pos) X.env = (do
      let ov ← eval o X.env
      standAt apos.atName
      let (f, first) ← holding [ov] (getMethod ov m pl)
      callWith pos f first (backTo pos (starEach [] X.env)) (backToKw pos (keywordEach [] X.env))) := by rfl) :
    PEt c .f X (.Call (.Attribute o m apos) [] [] pos) (tMethT cn m SP ddvs ta tNilT) :=
  ⟨fun ρ g ex Q Q' w q => ho.mono _ _ _ _ _ (fun d g1 q => ⟨q.1, ok.mono _ _ _ _ _ _ _ w (fun _ _ _ _ z => z) q.2⟩) q,
   fun ex xo => PE.weak (pe_methSD0 (pl := pl) (ho.run ex xo) cl hm F hr hb hd (fun σ => passAt xo.takes σ) ht) fun σ H Q ⟨N, ρ, g, R, q⟩ => ⟨N, ρ, g, R, ho.mono _ _ _ _ _ (fun d g1 ⟨q0, q⟩ v H1 R1 t1 k1 r1 => by
     obtain ⟨a, dx, fs, e1, e2, e3⟩ := self_ins q0 r1.tob
     refine ⟨a, dx, fs, e1, xo.hK ▸ e2, e3, ?_⟩
     exact call_lift ok xo.hK R1 t1 k1 (.cons (s := .b) r1.tob (hdd _ _ _)) q fun d g' q => q) q⟩⟩
end
end TL
set_option Elab.async false
set_option linter.all false
set_option maxRecDepth 100000
set_option maxHeartbeats 4000000
/-! TL11: own exceptions: raised, caught by several clauses. -/
namespace PySem.W
open PySem PySem.Spec PySem.Calls PyProof.Rows
section
variable {prog : Program} {w : World} {A : Around} {E : Value → Shared → Prop} {s : Shared} {K : Frag} {x D : Addr} {ox : Obj} {od : Option Obj}
theorem tl_findObj {C : Addr} {name : Str} {a g : Value} (hc : (clsIn K C).isSome = true) (ha : findIn K (.ref C) name = some (some a)) (hg : specialIn K a "__get__" = some (some g)) (ht : takesIn K a = some true) : findObj K C od name = some (.bind g a) := by
  obtain ⟨cd, hc⟩ := Option.isSome_iff_exists.mp hc
  unfold findObj; rw [hc, Option.bind_some, ha, Option.bind_some]; simp [hg, ht]
/-- what K says of a class whose instances may be asked -/
structure TlC (K : Frag) (D : Addr) : Prop where
  ga : findIn K (.ref D) "__getattribute__" = some (some (.builtin "BaseException.__getattribute__"))
  gt : findIn K (.ref D) "__getattr__" = some none
  sub : subIn K (.ref D) (.type "BaseException") = some true
  dct : hasDictIn K D = true
  cls : findIn K (.ref D) "__class__" = some (some (.builtin "object.__class__"))
  n : specialIn K (.builtin "object.__class__") "__get__" = some (some (.builtin "getset_descriptor.__get__"))
  tk : takesIn K (.builtin "object.__class__") = some true
  m : mroIn K D (.type "object") = some true
theorem tl_class {Q : Option Value → Shared → Prop} (T : TlC K D) (X : K.In s.heap) (I : InstAt s.heap x ox D od) (h : Q (some (.ref D)) { s with toks := s.toks + 1 }) : wpAny (model prog w) A (getAttr? (.ref x) "__class__") Q E s := by
  have hf : findObj K D od "__class__" = some (.bind (.builtin "getset_descriptor.__get__") (.builtin "object.__class__")) := tl_findObj (by obtain ⟨cd, hc, _⟩ := any_some T.dct; rw [hc]; rfl) T.cls T.n T.tk
  obtain ⟨hp, g, d, t, os⟩ := s
  have L0 := I.type (M := model prog w); have L1 := looks_findIn (M := model prog w) X T.ga; have L2 := looks_findIn (M := model prog w) X T.gt; have L3 := looks_find (M := model prog w) X I hf
  have sub : Looks (model prog w) hp (isInstance (.ref x) (.type "BaseException")) true := L0.andThen (looks_subIn X T.sub)
  have hx0 : (false && onTheHeap (Value.builtin "BaseException.__getattribute__")) = false := rfl; have hx2 : (Value.builtin "BaseException.__getattribute__" == Value.builtin "object.__getattribute__") = false := by decide +kernel
  have hx1 : (onTheHeap (Value.ref D) && Value.builtin "BaseException.__getattribute__" == Value.builtin "object.__getattribute__") = false := by rw [hx2]; rfl
  unfold getAttr? getAttrBy? getAttrBy; refine wpAny_bind (wpAny_mkText (wpAny_bind (wpAny_attempt (wpAny_holding (wpAny_bind (L0.at (wpAny_bind (L1.at ?_))))))))
  show wpAny _ _ (if (onTheHeap (Value.ref D) && Value.builtin "BaseException.__getattribute__" == Value.builtin "object.__getattribute__") = true then _ else _) _ _ _; rw [hx1, if_neg Bool.false_ne_true]
  unfold getAttrByItsOwn hookBefore
  refine wpAny_bind ?_; rw [if_pos (show onTheHeap (Value.ref D) = true from rfl)]
  refine L2.at ?_
  refine wpAny_bind (wpAny_attempt (wpAny_holding ?_)); unfold callGetattribute
  rw [hx0, if_neg Bool.false_ne_true]
  unfold boundAndCalled; rw [PySem.F.excAttr_ValueError.ga.bind (.ref x)]
  refine wpAny_bind (wpAny_pure ?_); show wpAny _ _ (call (.builtin "BaseException.__getattribute__") [.ref x, .str "__class__" t]) _ _ _
  refine wpAny_call (codeAny_call_builtin PySem.F.excAttr_ValueError.ga.plain PySem.F.entry_bexc_ga ?_); refine @check_slot (model prog w) _ _ ⟨hp, g, d, t + 1, os⟩ "BaseException.__getattribute__" "BaseException" "__getattribute__" (.ref x) [.str "__class__" t] [] _ (by decide +kernel) (by decide +kernel) sub (PySem.F.args_bexc_ga (.ref x) (.str "__class__" t)) ?_
  unfold Builtin.«object.__getattribute__»; refine wpAny_bind (wpAny_of_eq (a := ((Value.ref x : Value), [Value.str "__class__" t])) (by first | rfl | (simp only [slotArgs]; rfl)) ?_)
  refine wpAny_bind (wpAny_pure (wpAny_bind (L0.at (wpAny_bind (L3.at ?_))))); show wpAny _ _ (holding [Value.builtin "object.__class__"] (call (.builtin "getset_descriptor.__get__") [.builtin "object.__class__", .ref x, .ref D]) >>= ret) _ _ _
  refine wpAny_bind (wpAny_holding (wpAny_call (class_get (s := ⟨hp, g, d, t + 1, os⟩) (ox := ox) (od := od) X I T.m ?_)))
  refine wpAny_pure ?_; show wpAny _ _ (handedOut (.ref D)) _ _ _
  rw [handedOut_of (v := .ref D) rfl]
  first
    | exact wpAny_pure (wpAny_pure h)
    | exact wpAny_pure h
    | exact wpAny_pure (wpAny_bind (wpAny_pure (wpAny_pure h)))
theorem tl_kitx (T : TlC K D) : KitX K (.ref x) (.ref D) (fun h => ∃ od, InstAt h x ox D od) where
  ty := fun _ _ _ ⟨_, I⟩ => I.type
  it := fun _ _ X _ => by
    obtain ⟨cdD, hcD, _⟩ := any_some T.dct; unfold clsIn at hcD
    split at hcD
    · rename_i c' d' cd' sl' ho
      intro A' Q' E' s' k q; unfold isType loadHead; exact wpAny_bind (wpAny_loadPart (k _ _ (X _ _ ho)) (wpAny_pure q))
    · cases hcD
  ne := fun h tp dd its n sl X htp => by
    obtain ⟨cdD, hcD, _⟩ := any_some T.dct; refine Bool.eq_false_iff.mpr fun q => ?_
    have e : D = tp := Value.ref.inj (beq_iff_eq.mp q); subst e; unfold clsIn at hcD
    split at hcD
    · rename_i c' d' cd' sl' ho
      have z := (X _ _ ho).symm.trans htp; cases z
    · cases hcD
  ca := fun X ⟨_, I⟩ k => tl_class T X I k
end
end PySem.W
namespace TL
open PySem PySem.Spec PyProof.Rows L2
/-- isinstance(e, c), e the caught one -/
def rIsT (K : PySem.W.Frag) (H0 : Option Addr) (D a : Addr) : List V → Hp → VK → Prop := fun xs H Q => ∃ (c : V) (cv : Value) (b : Bool), xs = [.ref a, c] ∧ (∀ u, RelV c u → u = cv) ∧ PySem.W.kitOne K (.ref D) cv = some b ∧ (∀ dd, H0 = some dd → ∃ fs, H dd = some (.xd fs)) ∧ Q (.bl b) H
theorem call_isT {X : Cx} {a D : Addr} {d : Option Addr} {oe : Obj} {pn : List (Addr × Obj)} (C : PySem.W.TlC X.K D) (hz : Zc (.ref D) d oe) (hf : ∃ vs, oe.data = .fields vs) : CallR (X.suite a ((a, oe) :: pn)) (.builtin "isinstance") (rIsT X.K d D a) := by
  intro pins s σ H xs us Q I r h
  obtain ⟨c, cv, b, rfl, hcv, e, hdd, q⟩ := h
  cases r with
  | cons rx rr =>
    cases rr with
    | cons rt rr =>
      cases rr; cases rx
      have ec := hcv _ rt
      subst ec
      obtain ⟨hget, _⟩ := I.pin (a, oe) (List.mem_append.mpr (.inl List.mem_cons_self))
      obtain ⟨vs, hv⟩ := hf
      have J : ∃ od, PySem.W.InstAt s.heap a oe D od := by
        obtain ⟨oc, ode, oda, osl⟩ := oe
        obtain ⟨h1, h2⟩ := hz
        dsimp only at h1 h2 hv
        subst h1 h2 hv
        cases ode with
        | none => exact ⟨none, hget, rfl, rfl, trivial⟩
        | some dd =>
          obtain ⟨fs, hfs⟩ := hdd dd rfl
          have hx : ObjOk X.prog X.w H s.heap dd (.xd fs) := I.hok dd _ hfs
          obtain ⟨mA, hns, _⟩ := hx
          obtain ⟨o2, ho, _⟩ := lookIn_ns hns
          exact ⟨some o2, hget, rfl, rfl, ho⟩
      exact PySem.W.kia_one (PySem.W.tl_kitx C) I.kIn J e (fun z => nomatch z) fun tk => ⟨.bl b, H, I.kept (t' := tk) fun _ _ z => z, rfl, q⟩

/-! ### try: several clauses, each with a name -/
abbrev Cl := Value × Nat × (Addr → Value → Option Addr → TS)
def endsL (D : Ends) (i : Nat) : Ends := { nx := fun σ' H' => D.nx (σ'.set i none) H', rt := D.rt, bk := fun σ' H' => D.bk (σ'.set i none) H', ct := fun σ' H' => D.ct (σ'.set i none) H' }
def wL (K : PySem.W.Frag) (Wout : WX) (D : Ends) : List Cl → WX
  | [] => Wout
  | (c, i, ts) :: r => fun cls d σ H => ∃ b, PySem.W.exmOne K cls c = some b ∧ (b = true → ∀ a, H a = none → ts a cls d (endsL D i) (σ.set i (some (.ref a))) H) ∧ (b = false → wL K Wout D r cls d σ H)
inductive ClsOk (X : Cx) : List ExceptHandler → List Cl → Prop
  | nil : ClsOk X [] []
  | cons {x n : Str} {c : Value} {i : Nat} {ts : Addr → Value → Option Addr → TS} {b₀ : Stmt} {suite : List Stmt} {np pos' : Pos} {hds : List ExceptHandler} {l : List Cl} (hi : X.N[i]? = some n) (hln : X.env.kindOf n = some .local) (hc : Names X x c)
      (hsu : ∀ (a : Addr) (oe : Obj) (cls : Value) (d : Option Addr) (pn : List (Addr × Obj)), Zc cls d oe → (∃ vs, oe.data = .fields vs) → PSs (X.suite a ((a, oe) :: pn)) (b₀ :: suite) (ts a cls d)) (r : ClsOk X hds l) : ClsOk X (.ExceptHandler (some (.Name x np)) (some n) (b₀ :: suite) pos' :: hds) ((c, i, ts) :: l)
section
variable {X : Cx} {body : List Stmt} {h₀ : ExceptHandler} {hds : List ExceptHandler} {l : List Cl} {pos : Pos} {tb : WX → TS} {Wout : WX}
theorem ps_tryL (hs : X.stack = X.env :: X.outer) (hf : X.env.frame = some X.env.locals) (hN : X.N.Nodup) (tk : Takes X Wout)
    (hb : ∀ (W : WX) (pn : List (Addr × Obj)) (xe : Value → Shared → Prop), Takes (X.tr pn xe) W → PassesOwn (model X.prog X.w) X.A X.env xe → PSs (X.tr pn xe) body (tb W)) (hh : ClsOk X (h₀ :: hds) l) : PS X (.Try body (h₀ :: hds) [] [] pos) (fun D σ H => tb (wL X.K Wout D l) D σ H) := by
  refine ⟨fun pins s σ H D I h => ?_⟩
  have ok := I.ok; have hfr : X.A.frames = some (X.env :: X.outer) := by rw [ok.frames, hs]
  refine wpAny_Try_except ?_
  refine wpAny_mono ((hb (wL X.K Wout D l) (X.pn ++ pins) (fun e s₁ => wpAny (model X.prog X.w) X.A (noteFrame e X.env) (fun _ s₂ => wpAny (model X.prog X.w) X.A (setFlight e none) (fun _ s₃ => wpAny (model X.prog X.w) X.A (handleBy e X.env (h₀ :: hds)) (SP X pins D) X.xe s₃) X.xe s₂) X.xe s₁) (fun u s' xx => ?_) PassesOwn.looking).run [] s σ H D (I.toTry _) h) (fun f s1 hsp => ?_) (fun e s1 he => he)
  · obtain ⟨a, B, sI, pins', σ', H', cls, d, rfl, J', nb, up, sky, na, os, ag, w⟩ := xx
    have J : Inv X pins σ' H' sI := J'.ofTry ok; have sky' : Sky B (X.env :: X.outer) a (Zc cls d) X.env.locals s'.heap := by rw [← hs]; exact sky
    show wpAny (model X.prog X.w) X.A (noteFrame (.ref a) X.env) _ _ _; refine Sky.land Zc.steady hfr hf sky' fun h3 fl3 up3 => ?_
    have J3 : Inv X pins σ' H' { s' with heap := h3 } := J.landed nb fl3.1 (up.trans up3) os ag; obtain ⟨oe3, vs3, he3, hz3, hd3⟩ := fl3.there
    have notFr : ∀ {h : Heap} {o : Obj} {vs : Array Value}, h.FunFrames B (X.env :: X.outer) → h.get? a = some o → o.data = .fields vs → a ∉ frs (X.env :: X.outer) := fun {h o vs} ff e dd hm => by obtain ⟨_, o', e', hnf⟩ := ff.mem hm; rw [e] at e'; cases e'; exact hnf _ dd
    have nfr := notFr fl3.2.2.1 he3 hd3; have nL : a ≠ X.env.locals := fun z => nfr (List.mem_filterMap.mpr ⟨X.env, List.mem_cons_self, by rw [hf, z]⟩)
    have nF : a ∉ X.fs := fun hm => by obtain ⟨e, he, q⟩ := List.mem_filterMap.mp hm; exact nfr (List.mem_filterMap.mpr ⟨e, List.mem_cons_of_mem _ he, q⟩)
    have S3 := J3.suite he3 hd3 na nL nF
    have go : ∀ {hds' : List ExceptHandler} {l' : List Cl}, ClsOk X hds' l' → wL X.K Wout D l' cls d σ' H' → wpAny (model X.prog X.w) X.A (handleBy (.ref a) X.env hds') (SP X pins D) X.xe { s' with heap := h3 } := by
      intro hds' l' hk
      induction hk with
      | nil =>
        intro w; refine wpAny_handleBy_nil ?_
        obtain ⟨k1, k2, k3, oe, vs, T, oT, ts', he, hz, hd, h1, hr⟩ := id fl3; unfold PySem.passOn
        refine wpAny_bind (wpAny_field he hd h1 ?_); rw [if_neg (show ¬ ((Value.ref T == Value.none) = true) from by simp)]
        have fin : wpAny (model X.prog X.w) X.A (setFlight (.ref a) X.env.frame) (fun _ s4 => wpAny (model X.prog X.w) X.A (throw (.ref a) : Sem Flow) (SP X pins D) X.xe s4) X.xe { s' with heap := h3 } := by
          rw [hf]; refine HandSPX.setFlight_upZ fl3 fun h4 hh4 up4 => wpAny_throw (tk _ _ ?_); exact ⟨a, B, sI, pins, σ', H', cls, d, rfl, J, nb, (up.trans up3).trans up4, .inr (.inr (by rw [hs]; exact hh4)), na, os, ag, w⟩
        first
          | exact wpAny_bind (wpAny_pure (wpAny_bind fin))
          | exact wpAny_bind fin
      | @cons x n c i ts b₀ suite np pos' hds2 l2 hi hln hc hsu r ih =>
        intro w; obtain ⟨b, hb1, hyes, hno⟩ := w; have hloc : Loc X.env.scope n := .inl hln
        refine wpAny_handleBy_cons (codeAny_handlers_test ?_) (by intro q; cases q); have LT : PySem.W.Looks (model X.prog X.w) h3 (typeOf (.ref a)) cls := fun A Q E s k q => wpAny_typeOf_ref (k _ _ he3) (by rw [hz3.1]; exact q)
        have LM := PySem.W.exm_one (M := model X.prog X.w) (J3.kIn) LT hb1
        have test : ∀ {Q : Value → Shared → Prop} {E : Value → Shared → Prop}, Q c { s' with heap := h3 } → wpAny (model X.prog X.w) (X.A.mark (some (.ref a))) (eval (.Name x np) X.env) Q E { s' with heap := h3 } := fun {Q E} q => by
          obtain ⟨hg, hdbg, hm | ⟨hm, hv, hnn⟩⟩ := hc
          · exact ld_glob (X := X.suite a ((a, oe3) :: (X.pn ++ pins))) S3 hg hm q hdbg
          · exact ld_blt (X := X.suite a ((a, oe3) :: (X.pn ++ pins))) S3 hg hm hv q hnn hdbg
        refine test (LM.here ?_)
        cases b with
        | true =>
          refine codeAny_handlers_suite_as ?_; refine HandSPX.lands_againZ fl3 fun h4 fl4 up4 => ?_
          have J4 : Inv X pins σ' H' { s' with heap := h4 } := J.landed nb fl4.1 ((up.trans up3).trans up4) os ag; obtain ⟨oe4, vs4, he4, hz4, hd4⟩ := fl4.there
          have S4 := J4.suite he4 hd4 na nL nF; refine store_ok (X := X.suite a ((a, oe4) :: (X.pn ++ pins))) (v := .ref a) S4 hN hi hloc rfl (fun s5 S5 => ?_) (.inr hln)
          refine wpAny_mono ((hsu a oe4 cls d (X.pn ++ pins) hz4 ⟨_, hd4⟩).run [] s5 _ H' _ S5 (hyes rfl a na)) (fun f s6 hsp => ?_) (fun _ _ z => False.elim z)
          have end_ : ∀ {σ6 : L2.St} {H6 : Hp} {Q : Shared → Prop}, Inv (X.suite a ((a, oe4) :: (X.pn ++ pins))) [] σ6 H6 s6 → (∀ s7, Inv X pins (σ6.set i none) H6 s7 → Q s7) → wpAny (model X.prog X.w) X.A (do bindName X.env n .none; unbindBehindTheSuite X.env n pos') (fun _ s7 => Q s7) X.xe s6 := fun {σ6 H6 Q} S6 hq => gone_ok (S6.unsuite ok) hN hi hln hq
          cases f with
          | next => obtain ⟨σ6, H6, S6, q6⟩ := hsp; exact end_ S6 fun s7 J7 => ⟨_, _, J7, q6⟩
          | brk => obtain ⟨σ6, H6, S6, q6⟩ := hsp; exact end_ S6 fun s7 J7 => ⟨_, _, J7, q6⟩
          | cont => obtain ⟨σ6, H6, S6, q6⟩ := hsp; exact end_ S6 fun s7 J7 => ⟨_, _, J7, q6⟩
          | ret u => obtain ⟨v6, σ6, H6, S6, r6, q6⟩ := hsp; exact end_ S6 fun s7 J7 => ⟨_, _, _, J7, r6, q6⟩
        | false => exact ih (hno rfl)
    exact go hh w
  · cases f with
    | next => obtain ⟨σ', H', J', q⟩ := hsp; exact wpAny_execs_nil ⟨σ', H', J'.ofTry ok, q⟩
    | brk => obtain ⟨σ', H', J', q⟩ := hsp; exact ⟨σ', H', J'.ofTry ok, q⟩
    | cont => obtain ⟨σ', H', J', q⟩ := hsp; exact ⟨σ', H', J'.ofTry ok, q⟩
    | ret u => obtain ⟨v, σ', H', J', r, q⟩ := hsp; exact ⟨v, σ', H', J'.ofTry ok, r, q⟩
end
end TL
set_option Elab.async false
set_option linter.all false
set_option maxRecDepth 100000
set_option maxHeartbeats 4000000
/-! TL12: own exceptions over trees. -/
namespace TL
open PySem PySem.Spec PyProof.Rows L2
/-- what the written part says of an own exception class with one field -/
structure XC (K : PySem.W.Frag) (cn f : Str) : Prop where
  T : OexC K (He.ga K cn)
  iC : PySem.W.findIn K (.ref (He.ga K cn)) "__init__" = some (some (.ref (He.ma K (He.ga K cn) "__init__")))
  tI : PySem.W.typeIn K (.ref (He.ma K (He.ga K cn) "__init__")) = some (.type "function")
  no : PySem.W.findIn K (.ref (He.ga K cn)) f = some none
  xf : XfC K (He.ga K cn)
  tc : PySem.W.TlC K (He.ga K cn)
def oexB (K : PySem.W.Frag) (C : Addr) : Bool := match K.lookup C with
  | some ⟨.type t, _, .cls cd, sl⟩ => (match cd.mro, sl.toList with
    | .ref C' :: bm, [_, _, _, _, some (.builtin n), _] => decide (t = "type") && (decide (C' = C) && (decide (n = "ValueError.__new__") && (cd.hasDict && (!cd.hasDel && PySem.HandSPX.refsVE bm))))
    | _, _ => false)
  | _ => false
def optB (a b : Option Bool) : Bool := decide (a = b)
def xcB (K : PySem.W.Frag) (cn f : Str) : Bool :=
  oexB K (He.ga K cn) && (He.eqO (PySem.W.findIn K (.ref (He.ga K cn)) "__setattr__") (some (some (.builtin "object.__setattr__"))) && (optB (PySem.W.subIn K (.ref (He.ga K cn)) (.type "BaseException")) (some true) &&
  (decide (PySem.W.typeIn K (.ref (He.ga K cn)) = some (.type "type")) && (PySem.W.keepIn K (.ref (He.ga K cn)) && (He.eqO (PySem.W.findIn K (.ref (He.ga K cn)) "__init__") (some (some (.ref (He.ma K (He.ga K cn) "__init__")))) &&
  (decide (PySem.W.typeIn K (.ref (He.ma K (He.ga K cn) "__init__")) = some (.type "function")) && (He.eqO (PySem.W.findIn K (.ref (He.ga K cn)) f) (some none) && (xfB K (He.ga K cn) &&
  (He.eqO (PySem.W.findIn K (.ref (He.ga K cn)) "__class__") (some (some (.builtin "object.__class__"))) && (He.eqO (PySem.W.specialIn K (.builtin "object.__class__") "__get__") (some (some (.builtin "getset_descriptor.__get__"))) &&
  (optB (PySem.W.takesIn K (.builtin "object.__class__")) (some true) && optB (PySem.W.mroIn K (He.ga K cn) (.type "object")) (some true))))))))))))
theorem oexB_ok {K : PySem.W.Frag} {C : Addr} (h : oexB K C = true) : ∃ nm q N bs bm sn sub ab col dd k0 k1 k2 k3 k5, K.lookup C = some (excClassObj nm q C N bs bm true sn sub ab col dd k0 k1 k2 k3 k5 "ValueError.__new__") ∧ PySem.HandSPX.refsVE bm = true := by
  unfold oexB at h
  split at h
  · rename_i t dd cd sl ho
    split at h
    · rename_i C' bm k0 k1 k2 k3 n k5 hm hs
      simp only [Bool.and_eq_true, decide_eq_true_eq, Bool.not_eq_true'] at h
      obtain ⟨rfl, rfl, rfl, hd, hdel, hbm⟩ := h
      obtain ⟨nm, bs, mro, ns, qn, hdct, sn, sub, ab, col, del⟩ := cd
      dsimp only at hm hd hdel
      subst hm hd hdel
      have hsl : sl = #[k0, k1, k2, k3, some (.builtin "ValueError.__new__"), k5] := by
        obtain ⟨l⟩ := sl
        simp only at hs
        rw [hs]
      subst hsl
      exact ⟨nm, qn, ns, bs, bm, sn, sub, ab, col, dd, k0, k1, k2, k3, k5, ho, hbm⟩
    · cases h
  · cases h
theorem xcB_ok {K : PySem.W.Frag} {cn f : Str} (h : xcB K cn f = true) : XC K cn f := by
  obtain ⟨h1, h⟩ := He.ba h
  obtain ⟨h2, h⟩ := He.ba h
  obtain ⟨h3, h⟩ := He.ba h
  obtain ⟨h4, h⟩ := He.ba h
  obtain ⟨h5, h⟩ := He.ba h
  obtain ⟨h6, h⟩ := He.ba h
  obtain ⟨h7, h⟩ := He.ba h
  obtain ⟨h8, h⟩ := He.ba h
  obtain ⟨h9, h⟩ := He.ba h
  obtain ⟨h10, h⟩ := He.ba h
  obtain ⟨h11, h⟩ := He.ba h
  obtain ⟨h12, h13⟩ := He.ba h
  have x := xfB_ok h9
  exact ⟨⟨oexB_ok h1, He.eqO_ok h2, of_decide_eq_true h3, of_decide_eq_true h4, h5⟩, He.eqO_ok h6, of_decide_eq_true h7, He.eqO_ok h8, x, ⟨x.ga, x.gg, x.exC, x.hdC, He.eqO_ok h10, He.eqO_ok h11, of_decide_eq_true h12, of_decide_eq_true h13⟩⟩

/-- what such an __init__ promises -/
def spXI (K : PySem.W.Frag) (cn f : Str) : Sp := fun vs H Q _ => ∃ a y, vs = [.ref a, y] ∧ H a = some (exo a (He.ga K cn) none) ∧ ∀ dx, H dx = none → dx ≠ a → Q .non (upd (upd H dx (exd dx [(f, y)])) a (exo a (He.ga K cn) (some dx)))
theorem fn_xinit {P : Program} {w : World} {K : PySem.W.Frag} {mg : Str → Option Value} {base : Heap} {cn f qual : Str} {params : Arguments} {scope : Scope} {fI : Addr} {fd : FuncData} {p1 p2 p3 p4 : Pos} {CX : CXT} (F : FunD K "__init__" qual params [.Assign [.Attribute (.Name "self" p1) f p2] (.Name f p3) p4] scope [] [] fI fd)
    (S : FnScope ["self", f] ["self", f] scope) (xc : XC K cn f) (hd : (f == ("__debug__" : Str)) = false) (hcd : (f == ("__classdict__" : Str)) = false) (hl : scope.names.lookup ("self" : Str) = some NameKind.local ∧ scope.names.lookup f = some NameKind.local) : FnOk P w K mg base CX 1 fI fd ["self", f] (spXI K cn f) :=
  F.ok S (fun vs H Q E ⟨a, y, e, _⟩ => by subst e; rfl) fun cdv A outer s H vs Q E hr ⟨a, y, e, ha, q⟩ => by
    subst e
    refine ⟨_, pss_one (ps_ost (pe_var (i := 0) rfl (.inl hl.1)) (pe_var (i := 1) rfl (.inl hl.2) hd hcd)), ?_⟩
    refine ⟨y, rfl, .ref a, rfl, a, He.ga K cn, rfl, xc.T, xc.no, .inl ⟨ha, fun dx h1 h2 => ?_⟩⟩
    exact q dx h1 h2

section
variable {c : C} {X : Cx} {s : S} {e : Expr} {ta : TTE c.b.G} {t : TTA c.b.G} {p pos pos' : Pos} {x cn f : Str} {fd : FuncData}
@[simp] def tRaiseT {G : Type} (cn f : Str) (t : TTA G) : TTS G := fun TD ex ρ g => t ρ g ex fun ds g' => ∃ d, ds = [d] ∧ ex ρ g' cn [f] [d]
/-- raise C(e) -/
theorem st_raise (xc : XC X.K cn f) (F : FnOk X.prog X.w X.K X.mg X.base (L2.CX X.prog X.w) 1 (He.ma X.K (He.ga X.K cn) "__init__") fd ["self", f] (spXI X.K cn f)) (hb : Binds X.K fd ["self", f] []) (hr : Room 2 X.A) (hm : X.mg x = some (.ref (He.ga X.K cn))) (ha : PAt c .r X [e] t)
    (hc : X.calm = true := by rfl) (hg : Gl X x := by rfl) (hdb : (x == ("__debug__" : Str)) = false := by decide) (he : starEach (e :: []) X.env = (false, eval e X.env) :: starEach [] X.env := by rfl) (hpl : (backTo pos' (starEach [] X.env)).any (·.1) = false := by rfl) : PSt c X (.Raise (some (.Call (.Name x p) [e] [] pos')) none pos) (tRaiseT cn f t) :=
  ⟨fun ex ok => PS.weak (ps_raise hc ok.takes (pmk_oex xc.T xc.iC xc.tI F hr hb .nil (fun _ _ _ _ _ _ _ ⟨_, _, _, _, _, _, _, _, _, _, _, _, w⟩ => w.elim) hg hm (ha.run ex ok) hdb he hpl)) fun D σ H ⟨N, ρ, g, TD, R, q, F⟩ =>
    ⟨N, ρ, g, R, ha.mono _ _ _ _ _ (fun ds g' ⟨d, e, q⟩ vs H1 R1 t1 k1 r1 => by
      subst e
      cases r1 with
      | @cons _ y _ us r1 rn =>
        cases rn
        refine ⟨by simp, fun a hn => ⟨a, y, rfl, upd_same, fun dx h1 h2 => ?_⟩⟩
        have hdx : H1 dx = none := by rw [upd_ne h2] at h1; exact h1
        have e1 : upd (del (upd (upd (upd H1 a (exo a (He.ga X.K cn) none)) dx (exd dx [(f, y)])) a (exo a (He.ga X.K cn) (some dx))) a) dx (.xd [(f, y)]) = upd H1 dx (.xd [(f, y)]) := by
          funext b
          by_cases hb : b = dx
          · subst hb; rw [upd_same, upd_same]
          · rw [upd_ne hb, upd_ne hb]
            by_cases ha' : b = a
            · subst ha'; rw [del_same, hn]
            · rw [del_ne ha', upd_ne ha', upd_ne hb, upd_ne ha']
        refine ⟨rfl, dx, [(f, y)], upd_same, (upd_ne h2).trans upd_same, hdx, ?_⟩
        rw [e1]
        obtain ⟨R2, sm⟩ := laid (H1 := H1) (o := .xd [(f, y)]) R1 hdx
        exact ⟨N, ρ, g', cn, [f], [d], dx, [(f, y)], R2, ok.hK ▸ rfl, rfl, ⟨upd_same, (R1.fresh hdx).1, (R1.fresh hdx).2⟩, rfl, reps_cons (Rep.keep (.same sm) r1) reps_nil, q⟩) q⟩⟩
/-- where nobody comes -/
@[simp] def tNever {G : Type} : TTS G := fun _ _ _ _ => False
theorem st_never {st : Stmt} : PSt c X st tNever := ⟨fun ex ok => ⟨fun pins s σ H D I ⟨_, _, _, _, _, q, _⟩ => q.elim⟩⟩

/-! ### try -/
theorem Rn.unset {N : Addr → Prop} {ρ : Rho} {g : c.b.G} {σ : L2.St} {H : Hp} {i : Nat} (R : Rn c N ρ g σ H) (hz : i ∉ c.zk) : Rn c N (ρ.set i none) g (σ.set i none) H := by
  have key : ∀ {j : Nat} {d : D}, (ρ.set i none)[j]? = some (some d) → j ≠ i ∧ ρ[j]? = some (some d) := fun {j d} e => by
    rcases get_set e with ⟨_, e2⟩ | h
    · cases e2
    · exact h
  refine ⟨R.gh, R.keep, R.n0, R.ng, R.nt, by rw [List.length_set, List.length_set]; exact R.len, fun j d e => ?_, fun j hj d e ht => ?_, fun z hzz => ?_, R.pin⟩
  · obtain ⟨h1, h2⟩ := key e
    obtain ⟨v, h3, h4⟩ := R.slot j d h2
    exact ⟨v, by rw [List.getElem?_set_ne (Ne.symm h1)]; exact h3, h4⟩
  · obtain ⟨h1, h2⟩ := key e
    obtain ⟨p, h3, h4, h5, h6⟩ := R.own j hj d h2 ht
    refine ⟨p, by rw [List.getElem?_set_ne (Ne.symm h1)]; exact h3, h4, h5, fun k d' hk ek tk => ?_⟩
    obtain ⟨h7, h8⟩ := key ek
    rw [List.getElem?_set_ne (Ne.symm h7)]
    exact h6 k d' hk h8 tk
  · have h0 := c.hZ z hzz
    obtain ⟨h1, h2⟩ := R.frz z hzz
    have hne : i ≠ z.1 := fun q => hz (q ▸ h0)
    exact ⟨by rw [List.getElem?_set_ne hne]; exact h1, by rw [List.getElem?_set_ne hne]; exact h2⟩
abbrev ClT (G : Type) := List (Str × Bool) × Nat × (Addr → Str → List Str → List D → TTS G)
def endsT {G : Type} (TD : TEnds G) (i : Nat) : TEnds G := { nx := fun ρ g => TD.nx (ρ.set i none) g, rt := TD.rt, bk := fun ρ g => TD.bk (ρ.set i none) g, ct := fun ρ g => TD.ct (ρ.set i none) g }
def exL {G : Type} (TD : TEnds G) (ex : TX G) : List (ClT G) → TX G
  | [] => ex
  | (tab, i, ts) :: r => fun ρ g cn ns ds => ((cn, true) ∈ tab ∧ ∀ a, ts a cn ns ds (endsT TD i) noX (ρ.set i (some (.hnd a))) g) ∨ ((cn, false) ∈ tab ∧ exL TD ex r ρ g cn ns ds)
@[simp] def tTryT {G : Type} (tb : TTS G) (l : List (ClT G)) : TTS G := fun TD ex ρ g => tb TD (exL TD ex l) ρ g
abbrev sx (c : C) (ns : List Str) (ds : List D) (dd : Addr) : C := c.ext [] [] [(.xdt ns ds, .ref dd)] (fun _ h => nomatch h)
inductive ClsT (c : C) (X : Cx) : List ExceptHandler → List (ClT c.b.G) → Prop
  | nil : ClsT c X [] []
  | cons {x n : Str} {cv : Value} {i : Nat} {tab : List (Str × Bool)} {ts : Addr → Str → List Str → List D → TTS c.b.G} {b₀ : Stmt} {suite : List Stmt} {np pos' : Pos} {hds : List ExceptHandler} {l : List (ClT c.b.G)} (hi : X.N[i]? = some n) (hln : X.env.kindOf n = some .local) (hc : Names X x cv) (hM : c.M.contains i = false) (hz : c.zk.contains i = false)
      (ht : ∀ cn b, (cn, b) ∈ tab → PySem.W.exmOne X.K (.ref (He.ga X.K cn)) cv = some b)
      (hsu : ∀ (a : Addr) (oe : Obj) (cn : Str) (ns : List Str) (ds : List D) (dd : Addr) (pn : List (Addr × Obj)), (cn, true) ∈ tab → Zc (.ref (He.ga X.K cn)) (some dd) oe → (∃ vs, oe.data = .fields vs) → PSst (sx c ns ds dd) (X.suite a ((a, oe) :: pn)) (b₀ :: suite) (ts a cn ns ds)) (r : ClsT c X hds l) :
      ClsT c X (.ExceptHandler (some (.Name x np)) (some n) (b₀ :: suite) pos' :: hds) ((tab, i, ts) :: l)
def clOf (c : C) (K : PySem.W.Frag) (cv : Value) (q : ClT c.b.G) : Cl := (cv, q.2.1, fun a cls d => fun D σ H => ∃ cn ns ds dd, (cn, true) ∈ q.1 ∧ cls = .ref (He.ga K cn) ∧ d = some dd ∧ liftS (sx c ns ds dd) (q.2.2 a cn ns ds) noX D σ H)
theorem suite_ok {a : Addr} {pn : List (Addr × Obj)} (hK : X.K = c.b.K) (hu : X.A.units + 66 < cLine) : XOk (X.suite a pn) c noX :=
  ⟨fun u s' ⟨_, _, _, _, _, _, _, _, _, _, _, _, _, _, _, _, _, _, _, _, _, _, _, _, _, _, _, _, _, _, w⟩ => w.elim, .never, hK, hu⟩
theorem cls_ok {hds : List ExceptHandler} {l : List (ClT c.b.G)} (hh : ClsT c X hds l) (hK : X.K = c.b.K) (hu : X.A.units + 66 < cLine) : ∃ l2, ClsOk X hds l2 ∧ ∀ TD D ex, Fits c TD D → ∀ cls d σ H, liftX c (exL TD ex l) cls d σ H → wL X.K (liftX c ex) D l2 cls d σ H := by
  induction hh with
  | nil => exact ⟨[], .nil, fun TD D ex F cls d σ H q => q⟩
  | @cons x n cv i tab ts b₀ suite np pos' hds l hi hln hc hM hz ht hsu r ih =>
    obtain ⟨l2, h1, h2⟩ := ih
    refine ⟨clOf c X.K cv (tab, i, ts) :: l2, .cons hi hln hc (fun a oe cls d pn hzc hf => ?_) h1, fun TD D ex F cls d σ H q => ?_⟩
    · refine ⟨fun pins s σ H D I q => ?_⟩
      obtain ⟨cn, ns, ds, dd, hcn, e1, e2, q⟩ := q
      subst e1 e2
      exact ((hsu a oe cn ns ds dd pn hcn hzc hf).run noX (suite_ok hK hu)).run pins s σ H D I q
    · obtain ⟨N, ρ, g, cn, ns, ds, dd, fs, R, e1, e2, e3, e4, e5, q⟩ := q
      subst e1 e2
      rcases q with ⟨hcn, q⟩ | ⟨hcn, q⟩
      · refine ⟨true, hK ▸ ht cn true hcn, fun _ a ha => ⟨cn, ns, ds, dd, hcn, by rw [hK], rfl, N, _, g, endsT TD i, ?_, q a, ?_⟩, fun z => by cases z⟩
        · refine Rn.ext _ (R.set (d := .hnd a) rfl (by simpa using hM) (by simpa using hz)) (fun z hz => nomatch hz) fun z hz => ?_
          rw [List.mem_singleton.mp hz]
          exact ⟨dd, fs, rfl, e3.2.1, e3.2.2, e3.1, e4, e5⟩
        · exact ⟨fun N ρ g σ H R q => F.nx _ _ _ _ _ (R.unext.unset (by simpa using hz)) q, fun N ρ g σ H R q => F.bk _ _ _ _ _ (R.unext.unset (by simpa using hz)) q, fun N ρ g σ H R q => F.ct _ _ _ _ _ (R.unext.unset (by simpa using hz)) q, fun N ρ g σ H d v R r q => F.rt _ _ _ _ _ d v R.unext r q⟩
      · exact ⟨false, hK ▸ ht cn false hcn, fun z => (by cases z), fun _ => h2 TD D ex F _ _ _ _ ⟨N, ρ, g, cn, ns, ds, dd, fs, R, rfl, rfl, e3, e4, e5, q⟩⟩
theorem st_try {body : List Stmt} {h₀ : ExceptHandler} {hds : List ExceptHandler} {tb : TTS c.b.G} {l : List (ClT c.b.G)} (hb : ∀ pn xe, PSst c (X.tr pn xe) body tb) (hh : ClsT c X (h₀ :: hds) l) (hN : X.N.Nodup := by assumption) (hs : X.stack = X.env :: X.outer := by rfl) (hf : X.env.frame = some X.env.locals := by rfl) :
    PSt c X (.Try body (h₀ :: hds) [] [] pos) (tTryT tb l) :=
  ⟨fun ex ok => by
    obtain ⟨l2, h1, h2⟩ := cls_ok hh ok.hK ok.units
    refine PS.weak (ps_tryL hs hf hN ok.takes (tb := fun W D σ H => ∃ ex', (∀ cls d σ H, liftX c ex' cls d σ H → W cls d σ H) ∧ liftS c tb ex' D σ H) (fun W pn xe tk pa => ⟨fun pins s σ H D I ⟨ex', w, q⟩ => ?_⟩) h1) fun D σ H ⟨N, ρ, g, TD, R, q, F⟩ => ⟨exL TD ex l, h2 TD D ex F, N, ρ, g, TD, R, q, F⟩
    exact ((hb pn xe).run ex' ⟨tk.imp w, pa, ok.hK, ok.units⟩).run pins s σ H D I q⟩
/-- e.f, e the caught one -/
@[simp] def tXfT {G : Type} (a : Addr) (ns : List Str) (ds : List D) (f : Str) (t : TTE G) : TTE G := fun ρ g ex Q => t ρ g ex fun d g' => d = .hnd a ∧ ∃ d', (ns.zip ds).lookup f = some d' ∧ Q d' g'
theorem et_xf {a : Addr} {oe : Obj} {ns : List Str} {ds : List D} {dd : Addr} {pn : List (Addr × Obj)} (xc : XC X.K cn f) (hz : Zc (.ref (He.ga X.K cn)) (some dd) oe) (hf : ∃ vs, oe.data = .fields vs) (hp : (D.xdt ns ds, V.ref dd) ∈ c.pf) (he : PEt c s (X.suite a ((a, oe) :: pn)) e ta)
    (hb : attributeBase e f X.env (eval e X.env) = eval e X.env := by rfl) : PEt c .r (X.suite a ((a, oe) :: pn)) (.Attribute e f pos) (tXfT a ns ds f ta) :=
  ⟨fun ρ g ex Q Q' w q => he.mono _ _ _ _ _ (fun d g' ⟨e, d', l, q⟩ => ⟨e, d', l, w _ _ q⟩) q,
   fun ex ok => PE.weak (pe_xf xc.xf xc.no hz hf (he.run ex ok) hb) fun σ H Q ⟨N, ρ, g, R, q⟩ => ⟨N, ρ, g, R, he.mono _ _ _ _ _ (fun d g' ⟨e, d', l, q⟩ x H1 R1 t1 k1 r1 => by
     subst e
     obtain ⟨p, fs, e2, gg, nn, hpd, hns, hr⟩ := R1.pin _ hp
     injection e2 with e2
     subst e2
     obtain ⟨v, h1, h2⟩ := Reps.lookup hns hr l
     exact ⟨r1.tob, rfl, dd, fs, v, rfl, hpd, h1, q v H1 R1 t1 k1 h2⟩) q⟩⟩
/-- isinstance(e, C), e the caught one -/
@[simp] def tIsT {G : Type} (a : Addr) (b : Bool) (t : TTE G) : TTE G := fun ρ g ex Q => t ρ g ex fun d g' => d = .hnd a ∧ Q (.bl b) g'
theorem et_isE {a : Addr} {oe : Obj} {ns : List Str} {ds : List D} {dd : Addr} {pn : List (Addr × Obj)} {cy y : Str} {bb : Bool} {py : Pos} (xc : XC X.K cn f) (hz : Zc (.ref (He.ga X.K cn)) (some dd) oe) (hf : ∃ vs, oe.data = .fields vs) (hp : (D.xdt ns ds, V.ref dd) ∈ c.pf) (he : PEt c s (X.suite a ((a, oe) :: pn)) e ta)
    (hk : PySem.W.kitOne X.K (.ref (He.ga X.K cn)) (.ref (He.ga X.K cy)) = some bb) (hm : X.mg "isinstance" = none) (hy : X.mg y = some (.ref (He.ga X.K cy))) (hgy : Gl X y := by rfl) (hg : Gl X "isinstance" := by rfl) (hdy : (y == ("__debug__" : Str)) = false := by decide)
    (h1 : starEach (e :: [.Name y py]) X.env = (false, eval e X.env) :: starEach [.Name y py] X.env := by rfl) (h2 : starEach (.Name y py :: []) X.env = (false, eval (.Name y py) X.env) :: starEach [] X.env := by rfl) (hpl : (backTo pos (starEach [.Name y py] X.env)).any (·.1) = false := by rfl) :
    PEt c .f (X.suite a ((a, oe) :: pn)) (.Call (.Name "isinstance" p) [e, .Name y py] [] pos) (tIsT a bb ta) :=
  ⟨fun ρ g ex Q Q' w q => he.mono _ _ _ _ _ (fun d g' ⟨e, q⟩ => ⟨e, w _ _ q⟩) q,
   fun ex ok => PE.weak (pe_callB (call_isT xc.tc hz hf) hg hm (by rfl) (pa_cons (he.run ex ok) (pa_cons (pe_glob (v := .ref (He.ga X.K cy)) hgy hy rfl hdy) pa_nil h2) h1) (by decide) (by decide) h1 hpl) fun σ H Q ⟨N, ρ, g, R, q⟩ => ⟨N, ρ, g, R, he.mono _ _ _ _ _ (fun d g' ⟨e, q⟩ x H1 R1 t1 k1 r1 => by
     subst e
     obtain ⟨p, fs, e2, gg, nn, hpd, hns, hr⟩ := R1.pin _ hp
     injection e2 with e2
     subst e2
     have ex : x = .ref a := r1.tob
     subst ex
     exact ⟨.ref (He.ga X.K cy), .ref (He.ga X.K cy), bb, rfl, fun u r => r, hk, fun d2 e3 => by injection e3 with e3; subst e3; exact ⟨fs, hpd⟩, q _ _ R1 t1 k1 ⟨rfl, fun z => by cases z⟩⟩) q⟩⟩
end
end TL
set_option Elab.async false
set_option linter.all false
set_option maxRecDepth 100000
set_option maxHeartbeats 4000000
/-! TL13: objects made by their __init__. -/
namespace TL
open PySem PySem.Spec PyProof.Rows L2
/-- the object at x is done -/
def OutI (b : B) (N0 : Addr → Prop) (x : Addr) (H : Hp) (Q : VK) : D → b.G → Prop := fun d g' => ∀ H', b.Φ g' H' → (∀ a, H a ≠ none → H' a ≠ none) → (∀ a o, H a = some o → ¬ b.Γ a → a ≠ x → H' a = some o) → Rep b N0 H' d (.ref x) → Q .non H'
def OutIX (b : B) (N0 : Addr → Prop) (x : Addr) (H : Hp) (E : XK) : b.G → Str → List Str → List D → Prop := fun g' cn ns es => ∀ H' dd fvs, b.Φ g' H' → (∀ a, H a ≠ none → H' a ≠ none) → (∀ a o, H a = some o → ¬ b.Γ a → a ≠ x → H' a = some o) →
  H' dd = some (.xd fvs) ∧ ¬ b.Γ dd ∧ ¬ N0 dd → fvs.map (·.1) = ns → Reps b N0 H' es (fvs.map (·.2)) → E (.ref (He.ga b.K cn)) (some dd) H'
/-- an __init__'s promise: of the arguments behind self -/
def liftIn (K : PySem.W.Frag) (cn : Str) (SP : TSp) : Sp := fun vs H Q E => ∃ (b : B) (N0 : Addr → Prop) (g : b.G) (ds : List D) (x dx : Addr) (us : List V), vs = .ref x :: us ∧ b.K = K ∧ b.Φ g H ∧ (∀ a, b.Γ a → N0 a) ∧ (∀ a, N0 a → H a ≠ none) ∧ ¬ N0 x ∧ H x = some (.ins (He.ga K cn) dx []) ∧
  RepSs .b b (fun a => N0 a ∨ a = x) H H ds us ∧ (∀ (i : Nat) d v, ds[i]? = some d → us[i]? = some v → d.top = true → v ≠ .ref x) ∧ SP b ds g (OutI b N0 x H Q) (OutIX b N0 x H E)
section
variable {P : Program} {w : World} {K : PySem.W.Frag} {mg : Str → Option Value} {base : Heap} {x qual cn : Str} {params : Arguments} {body : List Stmt} {scope : Scope} {dvs : List V} {kws : List (Str × V)} {f : Addr} {fd : FuncData}
/-- what an __init__'s body wants; self's slot is 0 -/
abbrev VCI {G : Type} (t : TTS G) (N : List Str) (x : Addr) (cn : Str) (ds : List D) (g : G) (Q : D → G → Prop) (E : G → Str → List Str → List D → Prop) : Prop :=
  t { nx := fun ρ g => ∃ ns es, ρ[0]? = some (some (.sel x cn ns es)) ∧ Q (.obj cn ns es) g, rt := fun _ _ => False } (fun _ => E) (startR N (.sel x cn [] [] :: ds)) g
theorem xok_ofI {k : Nat} {N : List Str} {cdv : Value} {A : Around} {outer : List Env} {s : Shared} {H : Hp} {E : XK} {b : B} {N0 : Addr → Prop} {M : List Nat} {x : Addr} (hK : b.K = K) (hx : H x ≠ none) (hk : Room k (A.deeper (envOfC qual scope s.heap.objs.size f cdv)))  :
    XOk (cxOf (L2.CX P w) P w K mg base N qual scope f cdv A outer s H E) (mkI b N0 M H x) (fun _ g' cn ns es => OutIX b N0 x H E g' cn ns es) := by
  refine ⟨Takes.imp (takes_of rfl rfl rfl rfl) fun cls d σ H' q => ?_, passes_of rfl, hK.symm, ?_⟩
  · obtain ⟨N', ρ, g, cn, ns, ds, dd, fs, R, e1, e2, e3, e4, e5, e6⟩ := q
    subst e1 e2
    exact e6 H' dd fs R.gh (there_of R fun a z => .inr z) (fun a o e gg nx => R.keep a o e gg nx) ⟨e3.1, e3.2.1, fun z => e3.2.2 (R.n0 _ (.inl z))⟩ e4 (e5.stay Stay.refl fun a z => .inl (R.n0 a (.inl z)))
  · have := hk.un
    show (A.deeper _).units + 66 < cLine
    omega
theorem fn_okI {N ps : List Str} {k n : Nat} {SP : TSp} (F : FunD K x qual params body scope dvs kws f fd) (S : FnScope N ps scope) (ok : SpOk n SP) (hn : ps.length = n + 1) (M : List Nat) (hM : M.all (fun i => i == 0 || decide (ps.length ≤ i)) = true)
    (hbody : ∀ (cdv : Value) (A : Around) (outer : List Env) (s : Shared) (H : Hp) (E : XK) (b : B) (N0 : Addr → Prop) (y : Addr), b.K = K → (∀ a, N0 a → H a ≠ none) → Room k (A.deeper (envOfC qual scope s.heap.objs.size f cdv)) →
      ∃ t : TTS b.G, PSst (mkI b N0 M H y) (cxOf (L2.CX P w) P w K mg base N qual scope f cdv A outer s H E) body t ∧ ∀ ds g Q X, SP b ds g Q X → VCI t N y cn ds g Q X) : FnOk P w K mg base (L2.CX P w) (k + 1) f fd ps (liftIn K cn SP) :=
  F.ok S (fun vs H Q E ⟨b, N0, g, ds, y, dx, us, e, _, _, _, _, _, _, r, _, q⟩ => by rw [e, List.length_cons, ← r.length, ok.len _ _ _ _ _ q, hn]) fun cdv A outer s H vs Q E hr ⟨b, N0, g, ds, y, dx, us, e, hK, gh, ng, nt, nx, hx, r, ap, q⟩ => by
    subst e
    obtain ⟨t, ht, hv⟩ := hbody cdv A outer s H E b N0 y hK nt hr
    have hy : H y ≠ none := by rw [hx]; exact fun z => by cases z
    have hg : ¬ b.Γ y := fun z => nx (ng y z)
    have rr : RepSs .b b (fun a => N0 a ∨ a = y) H H (.sel y cn [] [] :: ds) (.ref y :: us) := .cons ⟨y, dx, [], rfl, hg, hK ▸ hx, ⟨rfl, rfl⟩, reps_nil⟩ r
    have hl : ds.length = n := ok.len _ _ _ _ _ q
    have R0 : Rn (mkI b N0 M H y) (fun a => N0 a ∨ a = y) (startR N (.sel y cn [] [] :: ds)) g (L2.start N (.ref y :: us)) H :=
      ⟨gh, fun a o e _ _ => e, fun _ z => z, fun a z => .inl (ng a z), fun a z => z.elim (nt a) fun z => z ▸ hy, by unfold L2.start startR; simp [r.length], fun i d e => by
        obtain ⟨_, e2⟩ := start_get e
        obtain ⟨v, q1, q2⟩ := rr.get e2
        exact ⟨v, start_v q1, q2⟩, fun i hi d e ht => by
        obtain ⟨h1, h2⟩ := start_get e
        have hz := List.all_eq_true.mp hM i hi
        have h0 : i = 0 := by
          rcases Bool.or_eq_true_iff.mp hz with hz | hz
          · exact beq_iff_eq.mp hz
          · have := of_decide_eq_true hz
            rw [List.length_cons] at h1
            omega
        subst h0
        refine ⟨y, start_v (by rfl), .inr rfl, .inr rfl, fun j d' hj ej tj z => ?_⟩
        obtain ⟨_, h3⟩ := start_get ej
        cases j with
        | zero => exact hj rfl
        | succ j =>
          obtain ⟨v, q1, q2⟩ := rr.get h3
          rw [start_v q1] at z
          injection z with z
          injection z with z
          exact ap j d' v (by simpa using h3) (by simpa using q1) tj z, fun z hz => (nomatch hz), fun z hz => (nomatch hz)⟩
    refine ⟨_, ht.run _ (xok_ofI hK hy hr), _, _, g, _, R0, hv ds g _ _ q, ⟨fun N ρ g σ H' R ⟨ns, es, e, q⟩ => ?_, fun _ _ _ _ _ _ q => q.elim, fun _ _ _ _ _ _ q => q.elim, fun _ _ _ _ _ _ _ _ _ q => q.elim⟩⟩
    obtain ⟨v, h1, h2⟩ := R.slot 0 _ e
    obtain ⟨p, dx', fs, e1, e2, e3, ⟨e4, e5⟩, e6⟩ := h2
    subst e4
    exact q H' R.gh (there_of R fun a z => .inr z) (fun a o e gg nx => R.keep a o e gg nx) ⟨p, dx', fs, rfl, e2, nx, e3, e5, e6.stay Stay.refl fun a z => .inl (R.n0 a (.inl z))⟩
end
/-! ### C(e, ..) -/
def tMakeSD (C : Addr) (sp : Sp) (dvs : List V) (E : L2.St → XK) (t : TA) : TE := fun σ H Q => t σ H fun vs H1 => ∀ x dx, H1 x = none → H1 dx = none → dx ≠ x → sp (.ref x :: (vs ++ dvs)) (upd (upd H1 dx (.own x)) x (.ins C dx [])) (fun v H2 => v = .non ∧ Q (.ref x) H2) (E σ)
section
variable {X : Cx} {e : Expr} {es : List Expr} {p pos : Pos} {k : Nat} {f : Addr} {fd : FuncData} {ps : List Str} {dvs : List V} {ds : List Value} {x : Str} {CX : CXT} {sp : Sp} {E : L2.St → XK} {C : Addr} {tt : TA}
theorem run_makeSD {pins : List (Addr × Obj)} {σ : L2.St} {H : Hp} {s : Shared} {Q : VK} {us : List Value} {vs : List V} (M : Mk X.K C f) (F : FnOk X.prog X.w X.K X.mg X.base CX k f fd ps sp) (hr : Room (k + 1) X.A) (hb : Binds X.K fd ps ds) (hd : Vals dvs ds) (hx : PassesAt CX X σ (E σ)) (I : Inv X pins σ H s) (r : Vals vs us)
    (h : ∀ x dx, H x = none → H dx = none → dx ≠ x → sp (.ref x :: (vs ++ dvs)) (upd (upd H dx (.own x)) x (.ins C dx [])) (fun v H2 => v = .non ∧ Q (.ref x) H2) (E σ)) : wpAny (model X.prog X.w) X.A (call (.ref C) us) (EP X pins σ Q) X.xe s := by
  have hq := h (s.heap.objs.size + 1) s.heap.objs.size (I.hok.fresh (Nat.le_succ _)) (I.hok.fresh (Nat.le_refl _)) (Nat.ne_of_lt (Nat.lt_succ_self _))
  have I2 := Inv.made (C := C) I; have r2 : Vals (V.ref (s.heap.objs.size + 1) :: (vs ++ dvs)) (Value.ref (s.heap.objs.size + 1) :: (us ++ ds)) := .cons rfl (r.append hd)
  have hl : (Value.ref (s.heap.objs.size + 1) :: us ++ ds).length = ps.length := by have e := r2.length; rw [F.len _ _ _ _ hq] at e; exact e.symm
  refine wpAny_call (make_map (f := f) I.kIn M.makes M.init (beq_iff_eq.mp M.fn) (codeAny_mono (F.run _ X.stack _ _ ⟨Value.ref (s.heap.objs.size + 1) :: us, []⟩ (Value.ref (s.heap.objs.size + 1) :: (us ++ ds)) _ _ (E σ) (hr.make C us []) (I2.env0.make C us []) (hb _ (Value.ref (s.heap.objs.size + 1) :: us) I2.kIn hl) r2 hq) fun r s' hq' => ?_))
  cases r with
  | error e => exact hx pins _ _ e s' I2 hq'
  | ok fl =>
    cases fl with
    | ret u => obtain ⟨v, H', I3, rv, ev, q3⟩ := I2.after hq'; subst ev; exact ⟨rv, ⟨V.ref (s.heap.objs.size + 1), H', I3, rfl, q3⟩⟩
    | next => exact False.elim hq'
    | brk => exact False.elim hq'
    | cont => exact False.elim hq'
theorem pe_makeSD (M : Mk X.K C f) (F : FnOk X.prog X.w X.K X.mg X.base CX k f fd ps sp) (hr : Room (k + 1) X.A) (hg : Gl X x) (hm : X.mg x = some (.ref C)) (hb : Binds X.K fd ps ds) (hd : Vals dvs ds) (hx : ∀ σ, PassesAt CX X σ (E σ)) (ha : PA X (e :: es) tt) (hdb : (x == ("__debug__" : Str)) = false := by decide)
    (he : starEach (e :: es) X.env = (false, eval e X.env) :: starEach es X.env := by rfl) (hpl : (backTo pos (starEach es X.env)).any (·.1) = false := by rfl) : PE X (.Call (.Name x p) (e :: es) [] pos) (tMakeSD C sp dvs E tt) := by
  refine ⟨fun pins s σ H Q I h => ?_⟩; refine wpAny_Call_Name_kw (ld_glob I hg hm ?_ hdb)
  refine PySem.W.callWith_K (h₀ := X.base) I.ok.mod.kin M.kp (thn (ha.run pos pins s σ H _ I h) fun us s1 ⟨vs, H1, I1, r, q⟩ => ⟨I1.kIn, ?_⟩) he hpl; exact run_makeSD M F hr hb hd (hx σ) I1 r q
end
section
variable {c : C} {X : Cx} {s : S} {e o : Expr} {es : List Expr} {t : TTA c.b.G} {p pos apos : Pos} {k n : Nat} {fd : FuncData} {ps : List Str} {SP : TSp} {dvs : List V} {ds : List Value} {ddvs : List D} {x cn : Str}
@[simp] def tMakeT {b : B} (SP : TSp) (ddvs : List D) (t : TTA b.G) : TTE b.G := fun ρ g ex Q => t ρ g ex fun ds g1 => SP b (ds ++ ddvs) g1 (fun d g' => d.top = false ∧ Q d g') fun g' cn ns es => ex ρ g' cn ns es
theorem et_make (M : Mk X.K (He.ga X.K cn) (He.ma X.K (He.ga X.K cn) "__init__")) (F : FnOk X.prog X.w X.K X.mg X.base (L2.CX X.prog X.w) k (He.ma X.K (He.ga X.K cn) "__init__") fd ps (liftIn X.K cn SP)) (ok : SpOk n SP) (hr : Room (k + 1) X.A) (hm : X.mg x = some (.ref (He.ga X.K cn))) (hb : Binds X.K fd ps ds) (hd : Vals dvs ds)
    (hdd : ∀ N H H', RepSs .r c.b N H H' ddvs dvs) (ha : PAt c .b X (e :: es) t) (hg : Gl X x := by rfl) (hdb : (x == ("__debug__" : Str)) = false := by decide) (he : starEach (e :: es) X.env = (false, eval e X.env) :: starEach es X.env := by rfl) (hpl : (backTo pos (starEach es X.env)).any (·.1) = false := by rfl) :
    PEt c .f X (.Call (.Name x p) (e :: es) [] pos) (tMakeT SP ddvs t) :=
  ⟨fun ρ g ex Q Q' w q => ha.mono _ _ _ _ _ (fun ds g1 q => ok.mono _ _ _ _ _ _ _ (fun d g q => ⟨q.1, w _ _ q.2⟩) (fun _ _ _ _ z => z) q) q,
   fun ex xo => PE.weak (pe_makeSD M F hr hg hm hb hd (fun σ => passAt xo.takes σ) (ha.run ex xo) hdb he hpl) fun σ H Q ⟨N, ρ, g, R, q⟩ => ⟨N, ρ, g, R, ha.mono _ _ _ _ _ (fun ds g1 q vs H1 R1 t1 k1 r1 y dx hy hdx hne => by
     have sm : Same H1 (upd (upd H1 dx (.own y)) y (.ins (He.ga X.K cn) dx [])) := fun a u e => by rw [upd_ne (ne_of_none e hy), upd_ne (ne_of_none e hdx)]; exact e
     have kn : ∀ a, (N a ∨ a = y) → N a ∨ H1 a = none := fun a z => z.imp id fun (z : a = y) => by rw [z]; exact hy
     have all := r1.append (RepSs.map (s := .r) (N := N) (H := H) (H1 := H1) (fun d v (h : Rep c.b N H1 d v) => (show RepS .b c.b N H H1 d v from h.toB)) (hdd N H H1))
     have stay : Stay c.b N H1 (upd (upd H1 dx (.own y)) y (.ins (He.ga X.K cn) dx [])) := (Keep.same sm).stay
     have th1 : ∀ a, H1 a ≠ none → (upd (upd H1 dx (.own y)) y (.ins (He.ga X.K cn) dx [])) a ≠ none := same_there sm
     have back1 : ∀ a, (upd (upd H1 dx (.own y)) y (.ins (He.ga X.K cn) dx [])) a = none → H1 a = none := fun a z => back th1 a z
     refine ⟨c.b, N, g1, ds ++ ddvs, y, dx, vs ++ dvs, rfl, xo.hK.symm, c.b.stab _ _ _ R1.gh fun a o _ e => sm a o e, R1.ng, fun a z => th1 a (R1.nt a z), fun z => R1.nt y z hy, upd_same, ?_, fun i d v ei evi tp ez => ?_, ?_⟩
     · refine RepSs.map (s := .b) (fun d v (h : RepB c.b N H1 d v) => ?_) all
       show RepB c.b _ _ d v
       cases d with
       | lst ds => obtain ⟨p', vs, e5, g5, q5, r5⟩ := h; exact ⟨p', vs, e5, g5, sm _ _ q5, r5.stay stay kn⟩
       | sel ax cn ns ds => obtain ⟨p', dx, fs, e5, g5, q5, f5, r5⟩ := h; exact ⟨p', dx, fs, e5, g5, sm _ _ q5, f5, r5.stay stay kn⟩
       | dct w kd ds => obtain ⟨p', es, e5, g5, q5, f5, r5, r6⟩ := h; exact ⟨p', es, e5, g5, sm _ _ q5, f5, r5.stay stay kn, r6.stay stay kn⟩
       | _ => exact Rep.stay (d := _) stay kn h
     · obtain ⟨u, q1, q2⟩ := all.get ei
       rw [evi] at q1
       injection q1 with q1
       subst q1 ez
       cases d with
       | lst ds => obtain ⟨p', vs, e5, g5, q5, r5⟩ := (show RepB c.b N H1 (.lst ds) (.ref y) from q2); injection e5 with e5; subst e5; rw [q5] at hy; cases hy
       | sel ax cn ns ds => obtain ⟨p', dx, fs, e5, g5, q5, f5, r5⟩ := (show RepB c.b N H1 (.sel ax cn ns ds) (.ref y) from q2); injection e5 with e5; subst e5; rw [q5] at hy; cases hy
       | dct w kd ds => obtain ⟨p', es, e5, g5, q5, f5, r5, r6⟩ := (show RepB c.b N H1 (.dct w kd ds) (.ref y) from q2); injection e5 with e5; subst e5; rw [q5] at hy; cases hy
       | _ => cases tp
     · refine ok.mono _ _ _ _ _ _ _ (fun d g' q H' gh th kp rf => ⟨rfl, ?_⟩) (fun g' cn' ns es q H' dd fvs gh th kp e1 e2 r' => ?_) q
       · have k2 : Keep c.b H1 H' := fun a o e ga => kp a o (sm a o e) ga fun z => by rw [z, hy] at e; cases e
         have th2 : ∀ a, H1 a ≠ none → H' a ≠ none := fun a z => th a (th1 a z)
         exact q.2 _ H' (R1.kept k2 gh fun a z => th2 a (R1.nt a z)) (fun a z => th2 a (t1 a z)) (k1.trans k2) ⟨rf, fun z => by rw [q.1] at z; cases z⟩
       · have k2 : Keep c.b H1 H' := fun a o e ga => kp a o (sm a o e) ga fun z => by rw [z, hy] at e; cases e
         have th2 : ∀ a, H1 a ≠ none → H' a ≠ none := fun a z => th a (th1 a z)
         exact ⟨N, ρ, g', cn', ns, es, dd, fvs, R1.kept k2 gh fun a z => th2 a (R1.nt a z), rfl, rfl, e1, e2, r', q⟩) q⟩⟩
end
end TL
set_option Elab.async false
set_option linter.all false
set_option maxRecDepth 100000
set_option maxHeartbeats 4000000
/-! TL14: a def's promise as one word; small rules. -/
namespace TL
open PySem PySem.Spec PyProof.Rows L2
/-- the global x is a def that keeps SP -/
structure CalD (P : Program) (w : World) (K : PySem.W.Frag) (mg : Str → Option Value) (base : Heap) (k : Nat) (x : Str) (n : Nat) (SP : TSp) : Prop where
  ok : SpOk n SP
  ex : ∃ f fd ps, ps.length = n ∧ FnOk P w K mg base (L2.CX P w) k f fd ps (liftSp K SP) ∧ mg x = some (.ref f) ∧ PySem.W.keepIn K (.ref f) = true ∧ Binds K fd ps []
/-- the class x: its __init__ keeps SP -/
structure MkD (P : Program) (w : World) (K : PySem.W.Frag) (mg : Str → Option Value) (base : Heap) (k : Nat) (x : Str) (n : Nat) (SP : TSp) : Prop where
  ok : SpOk n SP
  mkr : Mk K (He.ga K x) (He.ma K (He.ga K x) "__init__")
  ex : ∃ fd ps, FnOk P w K mg base (L2.CX P w) k (He.ma K (He.ga K x) "__init__") fd ps (liftIn K x SP) ∧ mg x = some (.ref (He.ga K x)) ∧ Binds K fd ps []
section
variable {c : C} {X : Cx} {s : S} {e o a b' : Expr} {es : List Expr} {t ta tb : TTE c.b.G} {tr : TTA c.b.G} {p pos apos : Pos} {k n : Nat} {SP : TSp} {x m cn : Str}
theorem et_callD (F : CalD X.prog X.w X.K X.mg X.base k x n SP) (hr : Room k X.A) (ha : PAt c .b X (e :: es) tr) (hg : Gl X x := by rfl) (hdb : (x == ("__debug__" : Str)) = false := by decide) (he : starEach (e :: es) X.env = (false, eval e X.env) :: starEach es X.env := by rfl) (hpl : (backTo pos (starEach es X.env)).any (·.1) = false := by rfl) :
    PEt c .f X (.Call (.Name x p) (e :: es) [] pos) (tCallT SP [] tr) := by
  obtain ⟨f, fd, ps, hl, F1, hm, hk, hb⟩ := F.ex
  subst hl
  exact et_call F1 F.ok hr hm hk hb .nil (fun _ _ _ => .nil) ha hg hdb he hpl
theorem et_makeD (F : MkD X.prog X.w X.K X.mg X.base k x n SP) (hr : Room (k + 1) X.A) (ha : PAt c .b X (e :: es) tr) (hg : Gl X x := by rfl) (hdb : (x == ("__debug__" : Str)) = false := by decide) (he : starEach (e :: es) X.env = (false, eval e X.env) :: starEach es X.env := by rfl) (hpl : (backTo pos (starEach es X.env)).any (·.1) = false := by rfl) :
    PEt c .f X (.Call (.Name x p) (e :: es) [] pos) (tMakeT SP [] tr) := by
  obtain ⟨fd, ps, F1, hm, hb⟩ := F.ex
  exact et_make F.mkr F1 F.ok hr hm hb .nil (fun _ _ _ => .nil) ha hg hdb he hpl
theorem et_gintE {i : Int} (h : ∃ k, X.mg x = some (.int i k)) (hg : Gl X x := by rfl) (hd : (x == ("__debug__" : Str)) = false := by decide) : PEt c .f X (.Name x pos) (tCon (.int i)) := by
  obtain ⟨k, h⟩ := h
  exact et_gint hg h ⟨k, rfl⟩ hd
theorem et_gstrE {i : Str} (h : ∃ k, X.mg x = some (.str i k)) (hg : Gl X x := by rfl) (hd : (x == ("__debug__" : Str)) = false := by decide) : PEt c .f X (.Name x pos) (tCon (.str i)) := by
  obtain ⟨k, h⟩ := h
  exact et_gstr hg h ⟨k, rfl⟩ hd
theorem fo1 {K : PySem.W.Frag} {b : B} {f : Str} (hK : b.K = K) (h : FieldOk K cn f) : ∀ c' ∈ [cn], FieldOk b.K c' f := fun c' hc => by
  rw [List.mem_singleton.mp hc, hK]; exact h
/-- - e -/
@[simp] def oNeg : D → (D → Prop) → Prop
  | .int i, Q => Q (.int (-i))
  | _, _ => False
@[simp] def tNegT {G : Type} (t : TTE G) : TTE G := fun ρ g ex Q => t ρ g ex fun d g' => oNeg d fun z => Q z g'
theorem et_neg (h : PEt c s X e t) : PEt c .f X (.UnaryOp .USub e pos) (tNegT t) :=
  ⟨fun ρ g ex Q Q' w q => h.mono _ _ _ _ _ (fun d g' q => by cases d <;> first | exact w _ _ q | exact q) q,
   fun ex ok => PE.weak (pe_un un_neg (h.run ex ok)) fun σ H Q ⟨N, ρ, g, R, q⟩ => ⟨N, ρ, g, R, h.mono _ _ _ _ _ (fun d g' q v H' R' th k r => by
     cases d with
     | int i => exact ⟨i, r.tob, q _ H' R' th k ⟨rfl, fun z => by cases z⟩⟩
     | _ => exact q.elim) q⟩⟩
/-- e in G, e not in G: G a tuple of texts of the written part -/
structure TupG (K : PySem.W.Frag) (mg : Str → Option Value) (x : Str) (ss : List Str) : Prop where
  ex : ∃ T, mg x = some (.ref T) ∧ ∀ H, SqT K H T (ss.map V.str)
@[simp] def tNotInG {G : Type} (ss : List Str) (t : TTE G) : TTB G := fun ρ g ex Q => t ρ g ex fun d g' => ∃ z, d = .str z ∧ Q (!decide (z ∈ ss)) g'
theorem inV_strs (z : Str) : ∀ ss : List Str, inV (.str z) (ss.map V.str) = decide (z ∈ ss)
  | [] => rfl
  | y :: ss => by
    have ih := inV_strs z ss
    unfold inV at ih ⊢
    rw [List.map_cons, List.any_cons, ih]
    by_cases h : z = y
    · subst h; simp [eqV, eqU]
    · have h' : ¬ y = z := fun q => h q.symm
      simp [h, h', eqV, eqU]
theorem bt_notInG {ss : List Str} {py : Pos} (hT : TupG X.K X.mg x ss) (ha : PEt c s X a ta) (hg : Gl X x := by rfl) (hd : (x == ("__debug__" : Str)) = false := by decide) (hm : behindInMarks .NotIn (.Name x py) = false := by rfl) : PBt c X (.Compare a [.NotIn] [.Name x py] pos) (tNotInG ss ta) := by
  obtain ⟨T, hT1, hT2⟩ := hT.ex
  exact ⟨fun ρ g ex Q Q' w q => ha.mono _ _ _ _ _ (fun d g' ⟨z, e, q⟩ => ⟨z, e, w _ _ q⟩) q,
   fun ex ok => PT.weak (pt_cmpR op_notIn_seq (ha.run ex ok) (pe_glob (v := .ref T) hg hT1 rfl hd) hm) fun σ H Q ⟨N, ρ, g, R, q⟩ => ⟨N, ρ, g, R, ha.mono _ _ _ _ _ (fun d g' ⟨z, e, q⟩ v H' R' th k r => by
     subst e
     have ev : v = .str z := r.tob
     subst ev
     refine ⟨T, ss.map V.str, rfl, .inr (hT2 H'), rfl, by simp [flatV], !decide (z ∈ ss), ?_, q H' R' th k⟩
     rw [if_pos rfl, inV_strs]) q⟩⟩
theorem vals_of_get : ∀ {xs : List V} {us : List Value}, us.length = xs.length → (∀ (i : Nat) v, us[i]? = some v → ∃ x, xs[i]? = some x ∧ RelV x v) → Vals xs us
  | [], [], _, _ => .nil
  | x :: xs, [], h, _ => by simp at h
  | [], u :: us, h, _ => by simp at h
  | x :: xs, u :: us, h, g => by
    obtain ⟨y, h1, h2⟩ := g 0 u rfl
    simp at h1
    subst h1
    exact .cons h2 (vals_of_get (by simpa using h) fun i v hv => by simpa using g (i + 1) v (by simpa using hv))
/-- list(text) -/
def rListStr : List V → Hp → VK → Prop := fun xs H Q => ∃ z : Str, xs = [.str z] ∧ z.cps.size ≤ sizeLine ∧ ∀ l, H l = none → Q (.ref l) (upd H l (.lst (z.cps.toList.map fun k => V.str ⟨#[k]⟩)))
theorem call_listStr (hc : X.calm = true) : CallR X (.type "list") rListStr := by
  intro pins s σ H xs us Q I r h
  obtain ⟨z, rfl, hz, q⟩ := h
  obtain ⟨u, rfl, rx⟩ := vals1 r
  obtain ⟨tk0, rfl⟩ := (show ∃ t, u = Value.str z t from rx)
  refine call_list_str (I.ok.hd hc) z tk0 (fun h' tk acc c' kp e hi => ?_) hz
  refine ⟨.ref s.heap.objs.size, _, I.laid (t' := tk) kp (Nat.le_refl _) (show ObjOk X.prog X.w _ h' _ (.lst (z.cps.toList.map fun k => V.str ⟨#[k]⟩)) from ⟨by simpa using hz, acc.toList, c', ?_, e⟩), rfl, q _ (I.hok.fresh (Nat.le_refl _))⟩
  refine vals_of_get (by simp [hi.1]) fun i v hv => ?_
  obtain ⟨c0, u0, h1, h2⟩ := hi.2 i v (by simpa using hv)
  exact ⟨.str ⟨#[c0]⟩, by simp [h1], u0, h2⟩
@[simp] def oListS : List D → (D → Prop) → Prop
  | [.str z], Q => z.cps.size ≤ sizeLine ∧ Q (.lst (signs z))
  | _, _ => False
theorem ct_listS (hc : X.calm = true := by rfl) : CallTR X c (.type "list") oListS :=
  ⟨fun ds Q Q' w q => by
    match ds, q with
    | [.str z], q => exact ⟨q.1, w _ q.2⟩,
   fun hK => ⟨_, call_listStr hc, fun N ds vs H Qd Qv fr r q k => by
    match ds, q with
    | [.str z], q =>
      cases r with
      | cons r1 rn =>
        cases rn
        have ev : _ = V.str z := (show RepB c.b N H (.str z) _ from r1)
        subst ev
        refine ⟨z, rfl, q.1, fun l hl => ?_⟩
        have rs : Reps c.b N H (signs z) (z.cps.toList.map fun k => V.str ⟨#[k]⟩) := by
          unfold signs
          generalize z.cps.toList = l0
          induction l0 with
          | nil => exact reps_nil
          | cons a l ih => exact reps_cons rfl ih
        obtain ⟨sm, rf⟩ := repLst (c := c) fr hl rs
        exact k _ q.2 _ _ sm rf⟩⟩
end
end TL
set_option Elab.async false
set_option linter.all false
set_option maxRecDepth 100000
set_option maxHeartbeats 4000000
/-! TL15: words for the printed walks. -/
namespace TL
open PySem PySem.Spec PyProof.Rows L2
structure XD (P : Program) (w : World) (K : PySem.W.Frag) (mg : Str → Option Value) (base : Heap) (x f : Str) : Prop where
  xc : XC K x f
  ex : ∃ fd, FnOk P w K mg base (L2.CX P w) 1 (He.ma K (He.ga K x) "__init__") fd ["self", f] (spXI K x f) ∧ mg x = some (.ref (He.ga K x)) ∧ Binds K fd ["self", f] []
section
variable {c : C} {X : Cx} {s : S} {e o a b' : Expr} {es : List Expr} {t ta tb : TTE c.b.G} {tr : TTA c.b.G} {p pos pos' apos : Pos} {k n : Nat} {SP : TSp} {x m cn f : Str} {u : TTS c.b.G}
theorem st_raiseD (h : XD X.prog X.w X.K X.mg X.base x f) (hr : Room 2 X.A) (ha : PAt c .r X [e] tr) (hc : X.calm = true := by rfl) (hg : Gl X x := by rfl) (hdb : (x == ("__debug__" : Str)) = false := by decide)
    (he : starEach (e :: []) X.env = (false, eval e X.env) :: starEach [] X.env := by rfl) (hpl : (backTo pos' (starEach [] X.env)).any (·.1) = false := by rfl) : PSt c X (.Raise (some (.Call (.Name x p) [e] [] pos')) none pos) (tRaiseT x f tr) := by
  obtain ⟨fd, F, hm, hb⟩ := h.ex
  exact st_raise h.xc F hb hr hm ha hc hg hdb he hpl
theorem tabN {P : Str → Bool → Prop} : ∀ cn b, (cn, b) ∈ ([] : List (Str × Bool)) → P cn b := fun _ _ h => (nomatch h)
theorem tabC {P : Str → Bool → Prop} {c1 : Str} {b1 : Bool} {l : List (Str × Bool)} (h : P c1 b1) (r : ∀ cn b, (cn, b) ∈ l → P cn b) : ∀ cn b, (cn, b) ∈ (c1, b1) :: l → P cn b := fun cn b h' => by
  rcases List.mem_cons.mp h' with e | e
  · injection e with e1 e2; subst e1 e2; exact h
  · exact r cn b e
/-- a try whose body raises nothing -/
@[simp] def tThruT {G : Type} (t : TTS G) : TTS G := fun TD _ ρ g => t TD noX ρ g
theorem nox_ok (hK : X.K = c.b.K) (hu : X.A.units + 66 < cLine) : XOk X.nox c noX :=
  ⟨fun u s' ⟨_, _, _, _, _, _, _, _, _, _, _, _, _, _, _, _, _, _, _, _, _, _, _, _, _, _, _, _, _, _, w⟩ => w.elim, .never, hK, hu⟩
theorem st_thru {body : List Stmt} {h₀ : ExceptHandler} {hs : List ExceptHandler} (hb : PSst c X.nox body u) : PSt c X (.Try body (h₀ :: hs) [] [] pos) (tThruT u) :=
  ⟨fun ex ok => PS.weak (ps_try_thru0 (hb.run noX (nox_ok ok.hK ok.units))) fun D σ H ⟨N, ρ, g, TD, R, q, F⟩ => ⟨N, ρ, g, TD, R, q, F⟩⟩
theorem st_retvC (i : Nat) {x : Str} {p : Pos} (hM : c.M.contains i = true := by rfl) (hfr : ∀ a, ¬ c.Fr a := by exact fun _ z => z) (hn0 : ∀ a, c.N0 a → c.H0 a ≠ none) (hN : X.N[i]? = some x := by rfl) (hv : Vis X.env.scope x := by first | exact Or.inl rfl | exact Or.inr (Or.inl rfl) | exact Or.inr (Or.inr rfl)) (hd : (x == ("__debug__" : Str)) = false := by decide)
    (hcd : (x == ("__classdict__" : Str)) = false := by decide) : PSt c X (.Return (some (.Name x p)) pos) (tRetV i) := st_retv i (by simpa using hM) hfr hn0 hN hv hd hcd
theorem et_rev {k : Nat} {p1 p2 p3 : Pos} (he : PEt c s X e t) : PEt c .f X (.Subscript e (.Slice none none (some (.UnaryOp .USub (.Constant (.int 1) k p1) p2)) p3) pos) (tRevT t) := et_revL he
end
section
variable {P : Program} {w : World} {K : PySem.W.Frag} {mg : Str → Option Value} {base : Heap} {x qual : Str} {params : Arguments} {body : List Stmt} {scope : Scope} {f : Addr} {fd : FuncData}
theorem calD_mk {N ps : List Str} {k n : Nat} {SP : TSp} (F : FunD K x qual params body scope [] [] f fd) (hm : mg x = some (.ref f)) (S : FnScope N ps scope) (ok : SpOk n SP) (hn : ps.length = n) (M : List Nat) (hM : M.all (fun i => decide (ps.length ≤ i)) = true)
    (h : ∀ (kV doc pm : Value) (an : Option Addr) (cdv ct : Value) (us : List Value), us.length = ps.length → bindArgs (PySem.W.fnOf x qual params body scope .none kV doc pm an cdv ct) ⟨us, []⟩ = pure (ps.zip us))
    (hbody : ∀ (cdv : Value) (A : Around) (outer : List Env) (s : Shared) (H : Hp) (E : XK) (b : B) (N0 : Addr → Prop), b.K = K → (∀ a, N0 a → H a ≠ none) → Room k (A.deeper (envOfC qual scope s.heap.objs.size f cdv)) →
      ∃ t : TTS b.G, PSst (mkC b N0 M H) (cxOf (L2.CX P w) P w K mg base N qual scope f cdv A outer s H E) body t ∧ ∀ ds g Q X, SP b ds g Q X → VC t N ds g Q X) : CalD P w K mg base (k + 1) x n SP :=
  ⟨ok, f, fd, ps, hn, fn_okT F S (hn ▸ ok) M hM hbody, hm, F.kp, F.bindsN h⟩
end
end TL
set_option Elab.async false
set_option linter.all false
set_option maxRecDepth 100000
set_option maxHeartbeats 4000000
/-! TL16: len of an own object; isinstance of plain data; a keyword call. -/
namespace TL
open PySem PySem.Spec PyProof.Rows L2
section
variable {X : Cx} {CX : CXT} {k : Nat} {f C : Addr} {fd : FuncData} {ps : List Str} {sp : Sp} {E : L2.St → XK}
theorem call_lenO {pins : List (Addr × Obj)} {σ : L2.St} {H : Hp} {s : Shared} {Q : VK} {a dx : Addr} {fs : List (Str × V)} (F : FnOk X.prog X.w X.K X.mg X.base CX k f fd ps sp) (hr : Room (k + 1) X.A) (cl : Cls X.K C) (hs : PySem.W.findIn X.K (.ref C) "__len__" = some (some (.ref f))) (hf : PySem.W.typeIn X.K (.ref f) = some (.type "function"))
    (hb : Binds X.K fd ps []) (hx : PassesAt CX X σ (E σ)) (I : Inv X pins σ H s) (ha : H a = some (.ins C dx fs)) (h : sp [.ref a] H (fun v H' => ∃ n : Nat, v = .int n ∧ n ≤ sizeLine ∧ Q v H') (E σ)) : wpAny (model X.prog X.w) X.A (call (.builtin "len") [.ref a]) (EP X pins σ Q) X.xe s := by
  have hz := sizeLine_eq
  obtain ⟨mA, O, _⟩ := ins_get I.hok ha
  obtain ⟨od, J, _⟩ := O.look
  refine PySem.Calls.call_function_entry kind_len plain_len entry_len (args_len1 _) ?_

  unfold Builtin.«len»
  refine wpAny_bind (m := oneArg "len" _) (wpAny_pure ?_)
  refine wpAny_bind (m := callSpecial? (.ref a) (Str.ofString "__len__")) (PySem.W.special_fn I.kIn J hs hf ?_)
  have hl : [Value.ref a].length = ps.length := F.len [.ref a] _ _ _ h
  have b := hb s [.ref a] I.kIn hl
  refine wpAny_call (codeAny_mono (F.run X.A.in1 X.stack s H ⟨[.ref a], []⟩ [.ref a] [.ref a] _ (E σ) hr.in1 I.env0.in1 b (.cons rfl .nil) h) fun r s' hq => ?_)
  cases r with
  | error e => exact hx pins H s e s' I hq
  | ok fl =>
    cases fl with
    | ret u =>
      obtain ⟨v, H', I', rv, n, ev, hn, q⟩ := I.after hq
      subst ev
      obtain ⟨t, rfl⟩ := (show ∃ t, u = Value.int n t from rv)
      refine wpAny_bind (wpAny_holding (wpAny_pure ?_))
      refine wpAny_bind (wpAny_letGo ?_)
      show wpAny _ _ (if ((n : Nat) : Int) < 0 then _ else _) _ _ _
      rw [if_neg (by omega)]
      show wpAny _ _ (if ((n : Nat) : Int) ≥ 2 ^ 63 then _ else _) _ _ _
      rw [if_neg (by omega)]
      exact wpAny_bind (wpAny_mkInt (wpAny_pure ⟨_, rfl, .int n, H', I'.tok _, ⟨_, rfl⟩, q⟩))
    | next => exact False.elim hq
    | brk => exact False.elim hq
    | cont => exact False.elim hq
end
section
variable {c : C} {X : Cx} {s : S} {e a b' : Expr} {es : List Expr} {t ta tb : TTE c.b.G} {tr tk : TTA c.b.G} {p pos : Pos} {k : Nat} {f : Addr} {fd : FuncData} {ps : List Str} {SP : TSp} {cn x : Str}
@[simp] def tLenT {b : B} (cn : Str) (SP : TSp) (t : TTE b.G) : TTE b.G := fun ρ g ex Q => t ρ g ex fun d g1 => oSelf cn "__len__" d ∧ SP b [d] g1 (fun d' g' => ∃ n : Nat, d' = .int n ∧ n ≤ sizeLine ∧ Q (.int n) g') fun g' cn ns es => ex ρ g' cn ns es
/-- the class cn has its own __len__ that keeps SP -/
structure LenD (P : Program) (w : World) (K : PySem.W.Frag) (mg : Str → Option Value) (base : Heap) (k : Nat) (cn : Str) (SP : TSp) : Prop where
  ok : SpOk 1 SP
  cl : Cls K (He.ga K cn)
  ex : ∃ f fd ps, ps.length = 1 ∧ FnOk P w K mg base (L2.CX P w) k f fd ps (liftSp K SP) ∧ PySem.W.findIn K (.ref (He.ga K cn)) "__len__" = some (some (.ref f)) ∧ PySem.W.typeIn K (.ref f) = some (.type "function") ∧ Binds K fd ps []
theorem et_lenO (F : LenD X.prog X.w X.K X.mg X.base k cn SP) (hr : Room (k + 1) X.A) (hm : X.mg "len" = none) (he : PEt c s X e t) (hg : Gl X "len" := by rfl) (hs : starEach (e :: []) X.env = (false, eval e X.env) :: starEach [] X.env := by rfl) (hpl : (backTo pos (starEach [] X.env)).any (·.1) = false := by rfl) :
    PEt c .f X (.Call (.Name "len" p) [e] [] pos) (tLenT cn SP t) := by
  obtain ⟨f, fd, ps, hl, F1, h1, h2, hb⟩ := F.ex
  refine ⟨fun ρ g ex Q Q' w q => he.mono _ _ _ _ _ (fun d g1 q => ⟨q.1, F.ok.mono _ _ _ _ _ _ _ (fun d g ⟨n, e, h, q⟩ => ⟨n, e, h, w _ _ q⟩) (fun _ _ _ _ z => z) q.2⟩) q, fun ex xo => ⟨fun pins s σ H Q I ⟨N, ρ, g, R, q⟩ => ?_⟩⟩
  refine wpAny_Call_Name_kw (ld_blt I hg hm boot_len ?_)
  refine PyProof.Rows.callWith_builtin1 (thn ((pa_cons (he.run ex xo) pa_nil hs).run pos pins s σ H (fun vs H1 => ∃ v, vs = [v] ∧ ∃ aa dx fs, v = .ref aa ∧ H1 aa = some (.ins (He.ga X.K cn) dx fs) ∧ liftSp X.K SP [.ref aa] H1 (fun v H' => ∃ n : Nat, v = .int n ∧ n ≤ sizeLine ∧ Q v H') (WE (liftX c ex) σ)) I ⟨N, ρ, g, R, he.mono _ _ _ _ _ (fun d g1 ⟨q0, q⟩ v H1 R1 t1 k1 r1 => ?_) q⟩) fun us s1 ⟨vs, H1, I1, r1, v, ev, aa, dx, fs, ev2, ha, q⟩ => ?_) hs hpl
  · subst ev ev2
    cases r1 with
    | cons ra rn =>
      cases rn
      cases ra
      exact call_lenO F1 hr F.cl h1 h2 hb (passAt xo.takes σ) I1 ha q
  · obtain ⟨a, dx, fs, e1, e2, e3⟩ := self_ins q0 r1.tob
    subst e1
    refine ⟨_, rfl, a, dx, fs, rfl, xo.hK ▸ e2, ?_⟩
    refine call_lift (ps := ps) (by rw [hl]; exact F.ok) xo.hK R1 t1 k1 (.cons (s := .b) r1.tob .nil) q fun d g' q v H' R' th kp rf => ?_
    obtain ⟨n, e, hn, q⟩ := q
    subst e
    have ev : v = .int n := rf.1
    subst ev
    exact ⟨n, rfl, hn, q _ H' R' th kp rf⟩
/-! ### isinstance(x, T), T a built-in type -/
def D.isi : D → String → Bool
  | .tup _, T => T == "tuple"
  | .lst _, T => T == "list"
  | .bl _, T => T == "bool" || T == "int"
  | .int _, T => T == "int"
  | .str _, T => T == "str"
  | _, _ => false
def D.tyN : D → String
  | .tup _ => "tuple"
  | .lst _ => "list"
  | .bl _ => "bool"
  | .int _ => "int"
  | .str _ => "str"
  | _ => "NoneType"
def D.pv : D → Bool
  | .tup _ => true
  | .lst _ => true
  | .bl _ => true
  | .int _ => true
  | .str _ => true
  | .non => true
  | _ => false
theorem rep_ty {b : B} {N : Addr → Prop} {H : Hp} {d : D} {v : V} (r : RepB b N H d v) (h : d.pv = true) : TyX b.K H v (.type d.tyN) := by
  cases d with
  | non => cases (show v = .non from r); exact .base .non
  | bl x => cases (show v = .bl _ from r); exact .base (.bl _)
  | int x => cases (show v = .int _ from r); exact .base (.int _)
  | str x => cases (show v = .str _ from r); exact .base (.str _)
  | lst ds => obtain ⟨p, vs, e, _, q, _⟩ := r; subst e; exact .base (.lst q)
  | tup ds =>
    obtain ⟨p, vs, e, _, q, _⟩ := r
    subst e
    rcases q with (q | ⟨o, q⟩) | ⟨o, its, n, q1, q2, _⟩
    · exact .base (.tup q)
    · exact .fTuple q
    · exact .kTuple q1 q2
  | _ => cases h
theorem kit_ty {K : PySem.W.Frag} (d : D) (T : String) (hT : T = "tuple" ∨ T = "list" ∨ T = "bool" ∨ T = "int" ∨ T = "str") (h : d.pv = true) : PySem.W.kitOne K (.type d.tyN) (.type T) = some (d.isi T) := by
  rcases hT with rfl | rfl | rfl | rfl | rfl <;> cases d <;> first | (cases h; done) | kernel_rfl | rfl
@[simp] def oIsi (T : String) : D → (D → Prop) → Prop := fun d Q => d.pv = true ∧ Q (.bl (d.isi T))
@[simp] def tIsiT {G : Type} (T : String) (t : TTE G) : TTE G := fun ρ g ex Q => t ρ g ex fun d g' => oIsi T d fun z => Q z g'
theorem et_isi {T : String} {y : Str} {py : Pos} (he : PEt c s X e t) (hT : T = "tuple" ∨ T = "list" ∨ T = "bool" ∨ T = "int" ∨ T = "str") (hm : X.mg "isinstance" = none) (hy : X.mg y = none) (hv : bootBuiltins y = some (.type T)) (hg : Gl X "isinstance" := by rfl) (hgy : Gl X y := by rfl) (hny : y ≠ "__name__" := by decide) (hdy : (y == ("__debug__" : Str)) = false := by decide)
    (h1 : starEach (e :: [.Name y py]) X.env = (false, eval e X.env) :: starEach [.Name y py] X.env := by rfl) (h2 : starEach (.Name y py :: []) X.env = (false, eval (.Name y py) X.env) :: starEach [] X.env := by rfl) (hpl : (backTo pos (starEach [.Name y py] X.env)).any (·.1) = false := by rfl) :
    PEt c .f X (.Call (.Name "isinstance" p) [e, .Name y py] [] pos) (tIsiT T t) :=
  ⟨fun ρ g ex Q Q' w q => he.mono _ _ _ _ _ (fun d g' ⟨e, q⟩ => ⟨e, w _ _ q⟩) q,
   fun ex ok => PE.weak (pe_callB call_isi hg hm (by rfl) (pa_cons (he.run ex ok) (pa_cons (pe_bltn (v := .ty T) hgy hy hv rfl hny hdy) pa_nil h2) h1) (by decide) (by decide) h1 hpl) fun σ H Q ⟨N, ρ, g, R, q⟩ => ⟨N, ρ, g, R, he.mono _ _ _ _ _ (fun d g' ⟨e, q⟩ x H1 R1 t1 k1 r1 =>
     ⟨x, .ty T, .type d.tyN, .type T, d.isi T, rfl, .ty T, ok.hK ▸ rep_ty r1.tob e, kit_ty d T hT e, q _ _ R1 t1 k1 ⟨rfl, fun z => by cases z⟩⟩) q⟩⟩
/-! ### f(e, .., k = v) -/
def tCallKS (n m : Nat) (sp : Sp) (gV : List V → List V → List V) (E : L2.St → XK) (t tk : TA) : TE := fun σ H Q => t σ H fun vs H1 => tk σ H1 fun zs H2 => (vs.length = n ∧ zs.length = m) ∧ sp (gV vs zs) H2 Q (E σ)
theorem pe_callKS {n : Nat} {CX : CXT} {sp : Sp} {E : L2.St → XK} {ks : List Str} {g : List Value → List Value → List Value} {gV : List V → List V → List V} {kws : List Keyword} {t tk : TA} (F : FnOk X.prog X.w X.K X.mg X.base CX k f fd ps sp) (hr : Room k X.A) (hg : Gl X x) (hm : X.mg x = some (.ref f)) (hk : PySem.W.keepIn X.K (.ref f) = true) (hb : KBn X.K fd ps n ks g gV) (hx : ∀ σ, PassesAt CX X σ (E σ))
    (ha : PA X (e :: es) t) (hkw : PK X kws tk) (hall : (backToKw pos (keywordEach kws X.env)).all (·.1.isSome) = true) (hks : (backToKw pos (keywordEach kws X.env)).filterMap (·.1) = ks) (hdb : (x == ("__debug__" : Str)) = false) (he : starEach (e :: es) X.env = (false, eval e X.env) :: starEach es X.env)
    (hpl : ((backTo pos (starEach (e :: es) X.env)).any (·.1) || (backToKw pos (keywordEach kws X.env)).any (·.1.isNone)) = false) : PE X (.Call (.Name x p) (e :: es) kws pos) (tCallKS n ks.length sp gV E t tk) := by
  refine ⟨fun pins s σ H Q I h => ?_⟩; refine wpAny_Call_Name_kw (ld_glob I hg hm ?_ hdb)
  refine PySem.W.callWith_KW (h₀ := X.base) I.ok.mod.kin hk hall (thn (ha.run pos pins s σ H _ I h) fun us s1 ⟨vs, H1, I1, r, q⟩ => ?_) hpl he
  refine thn (hkw.run pos pins s1 σ H1 _ I1 q) fun ws s2 ⟨zs, H2, I2, rz, ⟨l1, l2⟩, q2⟩ => ⟨I2.kIn, ?_⟩
  rw [hks]
  have r2 := hb.rel r rz
  refine wpAny_call (codeAny_mono (F.run X.A X.stack s2 H2 ⟨us, ks.zip ws⟩ (g us ws) (gV vs zs) Q (E σ) hr I2.env0 (hb.to s2 us ws I2.kIn (r.length.symm.trans l1) (rz.length.symm.trans l2)) r2 q2) fun r s' hq => ?_)
  cases r with
  | error e => exact hx σ pins H2 s2 e s' I2 hq
  | ok fl =>
    cases fl with
    | ret u => exact I2.after hq
    | next => exact False.elim hq
    | brk => exact False.elim hq
    | cont => exact False.elim hq
/-- such a def: the keyword's value stands behind the written ones -/
structure CalK (P : Program) (w : World) (K : PySem.W.Frag) (mg : Str → Option Value) (base : Heap) (k : Nat) (x : Str) (n : Nat) (kw : Str) (SP : TSp) : Prop where
  ok : SpOk (n + 1) SP
  ex : ∃ f fd ps, ps.length = n + 1 ∧ FnOk P w K mg base (L2.CX P w) k f fd ps (liftSp K SP) ∧ mg x = some (.ref f) ∧ PySem.W.keepIn K (.ref f) = true ∧ KBn K fd ps n [kw] (fun us ws => us ++ ws) (fun vs zs => vs ++ zs)
@[simp] def tCallK1T {b : B} (SP : TSp) (tr : TTA b.G) (t : TTE b.G) : TTE b.G := fun ρ g ex Q => tr ρ g ex fun ds g1 => t ρ g1 ex fun d g2 => SP b (ds ++ [d]) g2 Q fun g' cn ns es => ex ρ g' cn ns es
theorem et_callK1 {n : Nat} {kw : Str} {kp : Pos} (F : CalK X.prog X.w X.K X.mg X.base k x n kw SP) (hr : Room k X.A) (ha : PAt c .b X (e :: es) tr) (hk1 : PEt c s X a ta) (hg : Gl X x := by rfl) (hdb : (x == ("__debug__" : Str)) = false := by decide) (he : starEach (e :: es) X.env = (false, eval e X.env) :: starEach es X.env := by rfl)
    (hall : (backToKw pos (keywordEach [⟨some kw, a, kp⟩] X.env)).all (·.1.isSome) = true := by rfl) (hks : (backToKw pos (keywordEach [⟨some kw, a, kp⟩] X.env)).filterMap (·.1) = [kw] := by rfl)
    (hpl : ((backTo pos (starEach (e :: es) X.env)).any (·.1) || (backToKw pos (keywordEach [⟨some kw, a, kp⟩] X.env)).any (·.1.isNone)) = false := by rfl) :
    PEt c .f X (.Call (.Name x p) (e :: es) [⟨some kw, a, kp⟩] pos) (tCallK1T SP tr ta) := by
  obtain ⟨f, fd, ps, hl, F1, hm, hk, hb⟩ := F.ex
  refine ⟨fun ρ g ex Q Q' w q => ha.mono _ _ _ _ _ (fun ds g1 q => hk1.mono _ _ _ _ _ (fun d g2 q => F.ok.mono _ _ _ _ _ _ _ w (fun _ _ _ _ z => z) q) q) q, fun ex xo => PE.weak (pe_callKS F1 hr hg hm hk hb (fun σ => passAt xo.takes σ) (ha.run ex xo) (pk_cons (hk1.run ex xo) pk_nil) hall hks hdb he hpl) fun σ H Q ⟨N, ρ, g, R, q⟩ =>
    ⟨N, ρ, g, R, ha.mono _ _ _ _ _ (fun ds g1 q vs H1 R1 t1 k1 r1 => ⟨N, ρ, g1, R1, hk1.mono _ _ _ _ _ (fun d g2 q v H2 R2 t2 k2 r2 => ?_) q⟩) q⟩⟩
  refine ⟨⟨?_, rfl⟩, ?_⟩
  · have := F.ok.len _ _ _ _ _ q
    rw [List.length_append] at this
    rw [← r1.length]
    exact Nat.succ.inj this
  exact call_lift (ps := ps) (by rw [hl]; exact F.ok) xo.hK R2 (fun a z => t2 a (t1 a z)) (k1.trans k2) (((r1.keep k2).append (.cons (s := .b) (RepS.tob r2) .nil)).bb) q fun d g' q => q
theorem cls_one {n : Str} {cv : Value} {i : Nat} {C0 : Str} {tab : List (Str × Bool)} {ts : Addr → List Str → List D → TTS c.b.G} {b₀ : Stmt} {suite : List Stmt} {np pos' : Pos} {hds : List ExceptHandler} {l : List (ClT c.b.G)} (hi : X.N[i]? = some n) (hln : X.env.kindOf n = some .local) (hc : Names X x cv) (hM : c.M.contains i = false) (hz : c.zk.contains i = false)
      (ht : ∀ cn b, (cn, b) ∈ tab → PySem.W.exmOne X.K (.ref (He.ga X.K cn)) cv = some b) (ho : ∀ cn, (cn, true) ∈ tab → cn = C0)
      (hsu : ∀ (a : Addr) (oe : Obj) (ns : List Str) (ds : List D) (dd : Addr) (pn : List (Addr × Obj)), Zc (.ref (He.ga X.K C0)) (some dd) oe → (∃ vs, oe.data = .fields vs) → PSst (sx c ns ds dd) (X.suite a ((a, oe) :: pn)) (b₀ :: suite) (ts a ns ds)) (r : ClsT c X hds l) :
      ClsT c X (.ExceptHandler (some (.Name x np)) (some n) (b₀ :: suite) pos' :: hds) ((tab, i, fun a _ ns ds => ts a ns ds) :: l) :=
  .cons hi hln hc hM hz ht (fun a oe cn ns ds dd pn hcn hz hf => by cases ho cn hcn; exact hsu a oe ns ds dd pn hz hf) r
end
end TL
set_option Elab.async false
set_option linter.all false
set_option maxRecDepth 100000
set_option maxHeartbeats 4000000
/-! TL17: lists of the ghost (a store). -/
namespace TL
open PySem PySem.Spec PyProof.Rows L2
/-- the ground knows its lists -/
structure GLI (b : B) where
  val : b.G → Addr → List V
  put : b.G → Addr → List V → b.G
  get : ∀ g H a, b.Φ g H → b.Γ a → H a = some (.lst (val g a))
  set : ∀ g H a xs, b.Φ g H → b.Γ a → b.Φ (put g a xs) (upd H a (.lst xs))
/-- a ghost heap of lists over Γ -/
def storeB (K : PySem.W.Frag) (Γ : Addr → Prop) : B := { K := K, G := Addr → List V, Γ := Γ, Φ := fun g H => ∀ a, Γ a → H a = some (.lst (g a)), stab := fun g H H' h k a ga => k a _ ga (h a ga), there := fun g H a h ga z => by rw [h a ga] at z; cases z }
def storeI (K : PySem.W.Frag) (Γ : Addr → Prop) : GLI (storeB K Γ) where
  val := fun g => g
  put := fun g a xs => fun x => if x = a then xs else g x
  get := fun g H a h ga => h a ga
  set := fun g H a xs h ga x gx => by
    by_cases e : x = a
    · subst e; rw [upd_same]; simp
    · rw [upd_ne e]
      show H x = some (HO.lst (if x = a then xs else (show Addr → List V from g) x))
      rw [if_neg e]; exact h x gx
/-- an int or an address, as a tree -/
def vD : V → D
  | .int i => .int i
  | .ref a => .hnd a
  | _ => .non
def vOk : V → Bool
  | .int _ => true
  | .ref _ => true
  | _ => false
theorem vD_rep {b : B} {N : Addr → Prop} {H : Hp} {v : V} (h : vOk v = true) : Rep b N H (vD v) v := by
  cases v with
  | int i => exact (rfl : V.int i = V.int i)
  | ref a => exact (rfl : V.ref a = V.ref a)
  | _ => cases h
theorem vD_top (v : V) : (vD v).top = false := by cases v <;> rfl
section
variable {c : C} {X : Cx} {s s1 s2 : S} {e a b' : Expr} {t ta tb tk : TTE c.b.G} {pos p tp : Pos} {x : Str}
@[simp] def tGixT {b : B} (I : GLI b) (ta tb : TTE b.G) : TTE b.G := fun ρ g ex Q => ta ρ g ex fun d g1 => tb ρ g1 ex fun e g2 => ∃ l i v, d = .hnd l ∧ e = .int i ∧ b.Γ l ∧ atI (I.val g2 l) i = some v ∧ vOk v = true ∧ Q (vD v) g2
/-- x[k], x a list of the ghost -/
theorem et_gix {I : GLI c.b} (ha : PEt c s1 X a ta) (hb : PEt c s2 X b' tb) (hs : PlainIx b' := by exact fun _ _ => rfl) : PEt c .f X (.Subscript a b' pos) (tGixT I ta tb) :=
  ⟨fun ρ g ex Q Q' w q => ha.mono _ _ _ _ _ (fun x g1 q => hb.mono _ _ _ _ _ (fun y g2 ⟨l, i, v, e1, e2, e3, e4, e5, q⟩ => ⟨l, i, v, e1, e2, e3, e4, e5, w _ _ q⟩) q) q,
   fun ex ok => PE.weak (pe_ix ix_seq (ha.run ex ok) (hb.run ex ok) hs) fun σ H Q ⟨N, ρ, g, R, q⟩ => by
    refine ⟨N, ρ, g, R, ha.mono _ _ _ _ _ (fun d1 g1 q x H1 R1 t1 k1 r1 => ?_) q⟩
    refine ⟨N, ρ, g1, R1, hb.mono _ _ _ _ _ (fun d2 g2 ⟨l, i, v, e1, e2, e3, e4, e5, q'⟩ y H2 R2 t2 k2 r2 => ?_) q⟩
    subst e1 e2
    have r1' : x = .ref l := r1.tob
    have r2' : y = .int i := r2.tob
    subst r1' r2'
    exact .inl ⟨l, _, i, v, rfl, rfl, SqL.of (I.get g2 H2 l R2.gh e3), e4, q' v H2 R2 (fun a z => t2 a (t1 a z)) (k1.trans k2) ⟨vD_rep e5, fun z => by rw [vD_top] at z; cases z⟩⟩⟩
@[simp] def tGlenT {b : B} (I : GLI b) (t : TTE b.G) : TTE b.G := fun ρ g ex Q => t ρ g ex fun d g2 => ∃ l, d = .hnd l ∧ b.Γ l ∧ Q (.int (I.val g2 l).length) g2
theorem et_glen {I : GLI c.b} (he : PEt c s X e t) (hm : X.mg "len" = none) (hg : Gl X "len" := by rfl) (hs : starEach (e :: []) X.env = (false, eval e X.env) :: starEach [] X.env := by rfl) (hpl : (backTo pos (starEach [] X.env)).any (·.1) = false := by rfl) : PEt c .f X (.Call (.Name "len" p) [e] [] pos) (tGlenT I t) :=
  ⟨fun ρ g ex Q Q' w q => he.mono _ _ _ _ _ (fun d g' ⟨l, e, h, q⟩ => ⟨l, e, h, w _ _ q⟩) q,
   fun ex ok => PE.weak (pe_callB call_len hg hm boot_len (pa_cons (he.run ex ok) pa_nil hs) (by decide) (by decide) hs hpl) fun σ H Q ⟨N, ρ, g, R, q⟩ => ⟨N, ρ, g, R, he.mono _ _ _ _ _ (fun d g' ⟨l, e, h, q⟩ v H1 R1 t1 k1 r1 => by
     subst e
     have r1' : v = .ref l := r1.tob
     subst r1'
     exact ⟨_, _, rfl, .inl ⟨_, SqL.of (I.get g' H1 l R1.gh h), rfl⟩, q _ H1 R1 t1 k1 ⟨rfl, fun z => by cases z⟩⟩) q⟩⟩
@[simp] def tGsetT {b : B} (I : GLI b) (i : Nat) (tk t : TTE b.G) : TTS b.G := fun TD ex ρ g => t ρ g ex fun d g1 => ∃ l, ρ[i]? = some (some (.hnd l)) ∧ tk ρ g1 ex fun kd g2 => ∃ v k j, d = .int v ∧ kd = .int k ∧ b.Γ l ∧ ixN (I.val g2 l).length k = some j ∧ TD.nx ρ (I.put g2 l ((I.val g2 l).set j (.int v)))
/-- x[k] = e, x a list of the ghost -/
theorem st_gset {I : GLI c.b} (i : Nat) {ke : Expr} (hk : PEt c s2 X ke tk) (he : PEt c s X e t) (hN : X.N[i]? = some x := by rfl) (hv : Vis X.env.scope x := by first | exact Or.inl rfl | exact Or.inr (Or.inl rfl) | exact Or.inr (Or.inr rfl)) (hd : (x == ("__debug__" : Str)) = false := by decide)
    (hcd : (x == ("__classdict__" : Str)) = false := by decide)
    (ha : ∀ v, assign (.Subscript (.Name x p) ke tp) X.env v = (do let ov ← holding [v] (eval (.Name x p) X.env); let iv ← holding [v, ov] (eval ke X.env); standAt tp; holding [v, ov, iv] (setItem ov iv v); release [v, ov, iv] []) := by intro _; rfl)
    (hs : swapsWithSole [.Subscript (.Name x p) ke tp] e pos.line X.env = pure false := by rfl) (hw : swappedStores [.Subscript (.Name x p) ke tp] e X.env = pure none := by rfl)
    (h1 : (assignEach [.Subscript (.Name x p) ke tp] X.env).map (·.2) = [assign (.Subscript (.Name x p) ke tp) X.env] := by rfl) : PSt c X (.Assign [.Subscript (.Name x p) ke tp] e pos) (tGsetT I i tk t) :=
  ⟨fun ex ok => PS.weak (ps_asg (he.run ex ok) (pg_sub (pe_var hN hv hd hcd) (hk.run ex ok) set_list ha) hs hw h1) fun D σ H ⟨N, ρ, g, TD, R, q, F⟩ => ⟨N, ρ, g, R, he.mono _ _ _ _ _ (fun d g1 ⟨l, e0, q⟩ y H1 R1 t1 k1 r1 => by
    obtain ⟨v, h1, h2⟩ := R1.slot i _ e0
    have ev : v = .ref l := h2
    subst ev
    refine ⟨.ref l, h1, N, ρ, g1, R1, hk.mono _ _ _ _ _ (fun kd g2 ⟨vi, k, j, e1, e2, e3, e4, q'⟩ kv H2 R2 t2 k2 r2 => ?_) q⟩
    subst e1 e2
    have e5 : kv = .int k := r2.tob
    have e6 : y = .int vi := r1.tob
    subst e5 e6
    refine ⟨l, _, k, j, rfl, rfl, I.get g2 H2 l R2.gh e3, e4, F.nx _ _ _ _ _ (R2.kept (fun a o ea ga => (upd_ne (fun z => by subst z; exact ga e3)).trans ea) (I.set g2 H2 l _ R2.gh e3) fun a na z => ?_) q'⟩
    by_cases q0 : a = l
    · subst q0; rw [upd_same] at z; cases z
    · rw [upd_ne q0] at z; exact R2.nt a na z) q⟩⟩
end
end TL
set_option Elab.async false
set_option linter.all false
set_option maxRecDepth 100000
set_option maxHeartbeats 4000000
/-! TL18: tuple * int, any int from 0. -/
namespace TL
open PySem PySem.Spec PyProof.Rows L2
theorem tl_mul1 (l : Addr) (items : Array Value) (n : Nat) (dd : Option Addr) (sl : Array (Option Value)) (u : Tok) :
    Meets (Builtin.«tuple.__mul__» ⟨[.ref l, .int 1 u], []⟩) (fun _ R s => s.heap.get? l = some { cls := .type "tuple", dict := dd, data := .seq items n, slots := sl } ∧ R (.ok (.ret (Value.ref l))) s) :=
  .of_wp fun prog w A R s h => by
    obtain ⟨hp, g, d, tk, os⟩ := s
    obtain ⟨hl, h⟩ := h
    have f1 := AutoSeq1.idx_int
    have c1 : (items.isEmpty || (1 : Int) == 1) = true := by simp
    wp_walk using wpAny_loadPart' hl
    repeat (first
      | (refine wpAny_ite_true (decide_eq_true (by rw [c1])) ?_; wp_walk using wpAny_loadPart' hl)
      | (rw [if_pos c1]; wp_walk using wpAny_loadPart' hl))
    exact ⟨_, rfl, h⟩
theorem tl_mul0 (l : Addr) (items : Array Value) (n : Nat) (dd : Option Addr) (sl : Array (Option Value)) (u : Tok) (c1 : (items.isEmpty || (0 : Int) == 1) = false) :
    Meets (Builtin.«tuple.__mul__» ⟨[.ref l, .int 0 u], []⟩) (fun _ R s => s.heap.get? l = some { cls := .type "tuple", dict := dd, data := .seq items n, slots := sl } ∧ R (.ok (.ret (Value.ref s.heap.objs.size))) { s with heap := s.heap.push { cls := Value.type "tuple", data := Data.seq #[] }, toks := s.toks }) :=
  .of_wp fun prog w A R s h => by
    obtain ⟨hp, g, d, tk, os⟩ := s
    obtain ⟨hl, h⟩ := h
    have f1 := AutoSeq1.idx_int
    wp_walk using wpAny_loadPart' hl
    repeat (first
      | (refine wpAny_ite_false (decide_eq_false (by rw [c1]; exact Bool.false_ne_true)) ?_; wp_walk using wpAny_loadPart' hl))
    exact ⟨_, rfl, h⟩
def rRep01 (K : PySem.W.Frag) : R2 := fun x y H Q => ∃ l k xs, x = .ref l ∧ y = .int k ∧ SqT K H l xs ∧ xs ≠ [] ∧ ((k = 0 ∧ ∀ p, H p = none → Q (.ref p) (upd H p (.tup []))) ∨ (k = 1 ∧ Q (.ref l) H))
section
variable {X : Cx}
theorem op_rep01 : OpR X (binaryOp .Mult) (rRep01 X.K) := by
  intro pins s σ H x y v u Q I rx ry h
  obtain ⟨l, k, xs, rfl, rfl, hT, hne, q⟩ := h
  cases rx
  obtain ⟨t, rfl⟩ := ry
  obtain ⟨its, r, ⟨⟨cls, dd, data, sl⟩, ho, hc, n, hd⟩, hs⟩ := I.tuple hT
  simp only at hc hd
  subst hc hd
  have hle : its.length = xs.length := r.length.symm
  have hi : its.toArray.isEmpty = false := by
    cases its with
    | nil => exact absurd (List.eq_nil_of_length_eq_zero hle.symm) hne
    | cons a b => rfl
  rcases q with ⟨rfl, q⟩ | ⟨rfl, q⟩
  · refine wpAny_binaryOp_repeat_ref (T := "tuple") (U := "int") (by decide) ⟨_, ho, rfl⟩ (fun s' => typeIs_int s' 0 t) noFill_tuple_mul F.fills_int_mul F.slot_int_rmul repeat_tuple F.slot_int_index.lookup
      (call_meets F.slot_int_rmul (typeIs_int s 0 t) F.entry_int_rmul (F.args_int_rmul_2 _ _) (int_rmul_tuple 0 t l its.toArray n dd sl) ⟨ho, rfl, ⟨_, ho, rfl⟩, call_meets F.slot_tuple_mul ⟨_, ho, rfl⟩ F.entry_tuple_mul (F.args_tuple_mul_2 _ _) (tl_mul0 l its.toArray n dd sl t (by rw [hi]; rfl)) ⟨ho, ?_⟩⟩)
    refine ⟨.ref s.heap.objs.size, _, I.laid (t' := s.toks) (o := .tup []) (fun b ob q => Heap.get?_push_of_some _ q) (Nat.le_refl _) ?_, rfl, q _ (I.hok.fresh (Nat.le_refl _))⟩
    exact ⟨Nat.zero_le _, _, .nil, IsTup.new _ _⟩
  · refine wpAny_binaryOp_repeat_ref (T := "tuple") (U := "int") (by decide) ⟨_, ho, rfl⟩ (fun s' => typeIs_int s' 1 t) noFill_tuple_mul F.fills_int_mul F.slot_int_rmul repeat_tuple F.slot_int_index.lookup
      (call_meets F.slot_int_rmul (typeIs_int s 1 t) F.entry_int_rmul (F.args_int_rmul_2 _ _) (int_rmul_tuple 1 t l its.toArray n dd sl) ⟨ho, rfl, ⟨_, ho, rfl⟩, call_meets F.slot_tuple_mul ⟨_, ho, rfl⟩ F.entry_tuple_mul (F.args_tuple_mul_2 _ _) (tl_mul1 l its.toArray n dd sl t) ⟨ho, ?_⟩⟩)
    exact ⟨.ref l, H, I, rfl, q⟩
variable {c : C}
@[simp] def oMulT : D → D → (D → Prop) → Prop
  | .tup x, .int k, Q => (x ≠ [] ∧ 0 ≤ k ∧ k ≤ 1000 ∧ x.length ≤ 1000) ∧ Q (.tup (List.replicate k.toNat x).flatten)
  | _, _, _ => False
theorem ot_mulT : OpTR X c (binaryOp .Mult) oMulT :=
  ⟨fun d1 d2 Q Q' w q => by cases d1 <;> cases d2 <;> first | exact ⟨q.1, w _ q.2⟩ | exact q,
   fun hK _ => ⟨_, op_repT.or op_rep01, fun N d1 d2 x y H Qd Qv fr r1 r2 q k => by
    cases d1 with
    | tup ds => cases d2 with
      | int j =>
        obtain ⟨p1, vs, e1, g1, s1, rs⟩ := (show RepB c.b N H (.tup ds) x from r1)
        obtain ⟨⟨h0, h1, h2, h3⟩, q'⟩ := q
        have ey : y = .int j := r2
        subst ey
        have hl := rs.length
        have hne : vs ≠ [] := fun z => h0 (by rw [z] at hl; exact List.eq_nil_of_length_eq_zero hl)
        by_cases h : 2 ≤ j
        · refine .inl ⟨p1, j, vs, e1, rfl, hK ▸ s1, hne, h, h2, by omega, fun p hp => ?_⟩
          obtain ⟨sm, rf⟩ := repTup (c := c) fr hp (rs.rep j.toNat)
          exact k _ q' _ _ sm rf
        · by_cases hj : j = 0
          · subst hj
            refine .inr ⟨p1, 0, vs, e1, rfl, hK ▸ s1, hne, .inl ⟨rfl, fun p hp => ?_⟩⟩
            obtain ⟨sm, rf⟩ := repTup (c := c) fr hp (reps_nil (b := c.b) (N := N) (H := H))
            exact k _ q' _ _ sm rf
          · have hj1 : j = 1 := by omega
            subst hj1
            refine .inr ⟨p1, 1, vs, e1, rfl, hK ▸ s1, hne, .inr ⟨rfl, ?_⟩⟩
            have e : (List.replicate (1 : Int).toNat ds).flatten = ds := by show (List.replicate 1 ds).flatten = ds; simp
            rw [e] at q'
            exact k _ q' _ _ (fun _ _ e => e) ⟨⟨p1, vs, rfl, g1, s1, rs⟩, fun z => by cases z⟩
      | _ => exact q.elim
    | _ => cases d2 <;> exact q.elim⟩⟩
end
end TL
set_option Elab.async false
set_option linter.all false
set_option maxRecDepth 100000
set_option maxHeartbeats 4000000
/-! TL19: y = y + x.pop(e), texts. -/
namespace TL
open PySem PySem.Spec PyProof.Rows L2
section
variable {c : C} {X : Cx} {s : S} {e : Expr} {t : TTE c.b.G} {pos bpos p1 p2 p3 apos cpos : Pos} {x y : Str}
@[simp] def tAddPopT {G : Type} (fi pi : Nat) (t : TTE G) : TTS G := fun TD ex ρ g => ∃ z, ρ[fi]? = some (some (.str z)) ∧ (∃ es0, ρ[pi]? = some (some (.lst es0))) ∧ t ρ g ex fun d g' => ∃ i es k w, d = .int i ∧ Rng62 i ∧ ρ[pi]? = some (some (.lst es)) ∧ ixN es.length i = some k ∧ es[k]? = some (.str w) ∧ z.length + w.length ≤ sizeLine ∧ TD.nx ((ρ.set pi (some (.lst (es.eraseIdx k)))).set fi (some (.str (z ++ w)))) g'
theorem st_addPop (fi pi : Nat) (he : PEt c s X e t) (hne : fi ≠ pi := by decide) (hM : c.M.contains pi = true := by rfl) (hz : c.zk.contains pi = false := by rfl) (hMf : c.M.contains fi = false := by rfl) (hzf : c.zk.contains fi = false := by rfl) (hN : X.N.Nodup := by assumption) (hi : X.N[fi]? = some y := by rfl) (hp : X.N[pi]? = some x := by rfl)
    (hx : Loc X.env.scope y := by first | exact Or.inl rfl | exact Or.inr rfl) (hvy : Vis X.env.scope y := by first | exact Or.inl rfl | exact Or.inr (Or.inl rfl) | exact Or.inr (Or.inr rfl)) (hv : Vis X.env.scope x := by first | exact Or.inl rfl | exact Or.inr (Or.inl rfl) | exact Or.inr (Or.inr rfl))
    (hd : (x == ("__debug__" : Str)) = false := by decide) (hcd : (x == ("__classdict__" : Str)) = false := by decide) (hdy : (y == ("__debug__" : Str)) = false := by decide) (hcdy : (y == ("__classdict__" : Str)) = false := by decide)
    (hfew : ((backTo cpos (starEach [e] X.env)).all (fun x => !x.1) && (backToKw cpos (keywordEach [] X.env)).all (fun x => x.1.isSome) && decide ([e].length + ([] : List Keyword).length + (if ([] : List Keyword).isEmpty then 0 else 1) < 30)) = true := by rfl)
    (hline : (apos.endLine == cpos.line) = true := by rfl) (hs : starEach [e] X.env = (false, eval e X.env) :: starEach [] X.env := by rfl) (hplain : (backTo cpos (starEach [] X.env)).any (·.1) = false := by rfl)
    (hsw : swapsWith (.BinOp (.Name y p1) .Add (.Call (.Attribute (.Name x p2) "pop" apos) [e] [] cpos) bpos) (some (.Name y p3)) pos.line X.env = pure false := by rfl) (hf : X.fn y = true ∨ X.env.scope.names.lookup y = some .local := by first | exact .inl rfl | exact .inr rfl | assumption) :
    PSt c X (.Assign [.Name y p3] (.BinOp (.Name y p1) .Add (.Call (.Attribute (.Name x p2) "pop" apos) [e] [] cpos) bpos) pos) (tAddPopT fi pi t) :=
  ⟨fun ex ok => PS.weak (ps_set hN hi hx (pe_op op_add_str (pe_var hi hvy hdy hcdy) (pe_bm PySem.F.plainAttrs_list PySem.F.slot_list_pop PySem.F.type_list_pop mt_popAt (pe_var hp hv hd hcd) (pa_cons (he.run ex ok) pa_nil hs) rfl hfew hline hs hplain)) hsw hf) fun D σ H ⟨N, ρ, g, TD, R, ⟨z, ez, ⟨es0, e0⟩, q⟩, F⟩ => by
    obtain ⟨vz, hz1, hz2⟩ := R.slot fi _ ez
    have evz : vz = .str z := hz2
    subst evz
    obtain ⟨v, h1, h2⟩ := R.slot pi _ e0
    obtain ⟨l, vs, e1, g1, q1, r1⟩ := h2
    subst e1
    refine ⟨.str z, hz1, .ref l, h1, .inl ⟨rfl, vs, SqL.of q1⟩, N, ρ, g, R, he.mono _ _ _ _ _ (fun d g' ⟨i, es, k, w, ed, hr, e2, hk, hw, hl, q'⟩ yv H' R' th kp r => ?_) q⟩
    subst ed
    have ey : yv = .int i := r.tob
    subst ey
    obtain ⟨v', h3, h4⟩ := R'.slot pi _ e2
    obtain ⟨l', vs', e3, g3, q3, r3⟩ := h4
    rw [h1] at h3
    injection h3 with h3
    injection h3 with h3
    subst h3
    injection e3 with e3
    subst e3
    obtain ⟨wv, hw1, hw2⟩ := r3.get hw
    have ew : wv = .str w := hw2
    subst ew
    obtain ⟨sx, _⟩ := ixN_seq hk
    have h3N : N l := by
      obtain ⟨p', h5, _, h7, _⟩ := R'.own pi (by simpa using hM) _ e2 rfl
      rw [h1] at h5
      injection h5 with h5
      injection h5 with h5
      injection h5 with h5
      exact h5 ▸ h7
    have stay : Stay c.b N H' (upd H' l (.lst (vs'.eraseIdx k))) := fun a ob ea _ q => by
      refine (upd_ne (fun z => ?_)).trans ea
      subst z
      exact q.elim (fun ⟨xs, w⟩ => nrd_lst q3 xs w) fun w => w h3N
    refine ⟨l, vs', i, k, .str w, rfl, rfl, q3, by have := hr.1; omega, by have := hr.2; omega, by rw [← r3.length]; exact sx, hw1, z, w, rfl, rfl, hl, ?_⟩
    have Rw := R'.write (by simpa using hM) e2 rfl h1 (nrd_lst q3) (by simpa using hz) (d' := .lst (es.eraseIdx k)) (o := .lst (vs'.eraseIdx k)) ⟨l, _, rfl, g3, upd_same, (r3.eraseIdx k).stay stay fun a z => .inl z⟩ g3 rfl
    exact F.nx _ _ _ _ _ (Rw.set (d := .str (z ++ w)) rfl (by simpa using hMf) (by simpa using hzf)) q'⟩
end
end TL
set_option Elab.async false
set_option linter.all false
set_option maxRecDepth 100000
set_option maxHeartbeats 4000000
/-! TL20: text[::-1]. -/
namespace TL
open PySem PySem.Spec PyProof.Rows L2
def revS (z : Str) : Str := ⟨((Builtin.Str.strSliceIndices none none (-1) z.length).filterMap (z.cps[·]?)).toArray⟩
def tRevS (te : TE) : TE := fun σ H Q => te σ H fun x H1 => ∃ z, x = .str z ∧ (revS z).length ≤ sizeLine ∧ Q (.str (revS z)) H1
section
variable {X : Cx}
theorem pe_revS {e : Expr} {te : TE} {k : Nat} {p1 p2 p3 pos : Pos} (he : PE X e te) : PE X (.Subscript e (.Slice none none (some (.UnaryOp .USub (.Constant (.int 1) k p1) p2)) p3) pos) (tRevS te) := by
  refine ⟨fun pins s σ H Q I h => ?_⟩
  refine Subscript_ (thn (he.run pins s σ H _ I h) fun v s1 ⟨x, H1, I1, r1, q1⟩ => ?_)
  obtain ⟨z, ex, hl, q⟩ := q1
  subst ex
  obtain ⟨tz, rfl⟩ := r1
  have hst : PO X (some (.UnaryOp .USub (.Constant (.int 1) k p1) p2)) (tPart (tUn (rU fun i => .int (-i)) (tC (.int 1)))) := po_some (pe_un un_neg pe_int)
  refine wpAny_Slice (thn (po_none.run pins s1 σ H1 (fun o H2 => o = none ∧ H2 = H1) I1 ⟨rfl, rfl⟩) fun vl s2 ⟨l, H2, I2, pl, el, e2⟩ => ?_)
  subst el e2
  refine thn (po_none.run pins s2 σ H2 (fun o H3 => o = none ∧ H3 = H2) I2 ⟨rfl, rfl⟩) fun vu s3 ⟨u, H3, I3, pu, eu, e3⟩ => ?_
  subst eu e3
  refine thn (hst.run pins s3 σ H3 (fun o H4 => o = some (-1) ∧ H4 = H3) I3 ⟨1, rfl, -1, rfl, rfl, rfl⟩) fun vs s4 ⟨o, H4, I4, ps, eo, e4⟩ => ?_
  subst eo e4
  cases pl
  cases pu
  cases ps with
  | int _ tm =>
  have I5 : Inv X pins σ H4 { s4 with heap := s4.heap.push { cls := .type "slice", data := .fields #[.none, .none, .int (-1) tm] } } := I4.kept (t' := s4.toks) fun b ob q => Heap.get?_push_of_some _ q
  show wpAny (model X.prog X.w) X.A (subscriptTail e (.Slice none none (some (.UnaryOp .USub (.Constant (.int 1) k p1) p2)) p3) (.str z tz) (.ref s4.heap.objs.size)) (EP X pins σ Q) X.xe { s4 with heap := s4.heap.push { cls := .type "slice", data := .fields #[.none, .none, .int (-1) tm] } }
  refine tail_any (ops := [.str z tz, .ref s4.heap.objs.size]) (typeIs_str _ _ _) (PySem.F.slot_str_getitem.lookup) ?_ (by with_unfolding_all rfl)
  refine wpAny_getItem_str_slice (l := none) (u := none) (st := some (-1, tm)) ⟨_, Heap.get?_push_size _ rfl, rfl, rfl⟩ (by rfl) ?_
  unfold sliceMade
  rw [if_neg (by simp)]
  exact ⟨hl, .str (revS z), H4, I5.tok _, ⟨_, rfl⟩, q⟩
end
section
variable {c : C} {X : Cx} {s : S} {e : Expr} {t : TTE c.b.G} {pos : Pos}
@[simp] def tRevST {G : Type} (t : TTE G) : TTE G := fun ρ g ex Q => t ρ g ex fun d g' => ∃ z, d = .str z ∧ (revS z).length ≤ sizeLine ∧ Q (.str (revS z)) g'
theorem et_revS {k : Nat} {p1 p2 p3 : Pos} (he : PEt c s X e t) : PEt c .f X (.Subscript e (.Slice none none (some (.UnaryOp .USub (.Constant (.int 1) k p1) p2)) p3) pos) (tRevST t) :=
  ⟨fun ρ g ex Q Q' w q => he.mono _ _ _ _ _ (fun d g' ⟨ds, e, h, q⟩ => ⟨ds, e, h, w _ _ q⟩) q,
   fun ex ok => PE.weak (pe_revS (he.run ex ok)) fun σ H Q ⟨N, ρ, g, R, q⟩ => ⟨N, ρ, g, R, he.mono _ _ _ _ _ (fun d g1 ⟨z, e, h, q⟩ x H1 R1 t1 k1 r1 => by
    subst e
    exact ⟨z, r1.tob, h, q _ H1 R1 t1 k1 ⟨rfl, fun z => by cases z⟩⟩) q⟩⟩
end
end TL
set_option Elab.async false
set_option linter.all false
set_option maxRecDepth 100000
set_option maxHeartbeats 4000000
/-! TL21: an own list given away. -/
namespace TL
open PySem PySem.Spec PyProof.Rows L2
section
variable {c : C} {X : Cx}
/-- slot j's list is one's own no more: it may be kept elsewhere -/
theorem Rn.give {N : Addr → Prop} {ρ : Rho} {g : c.b.G} {σ : L2.St} {H : Hp} {j : Nat} {ds : List D} (R : Rn c N ρ g σ H) (hj : j ∈ c.M) (hz : j ∉ c.zk) (e : ρ[j]? = some (some (.lst ds))) (hn0 : ∀ a, c.N0 a → c.H0 a ≠ none) (hfr : ∀ a, ¬ c.Fr a) :
    ∃ N' q, (∀ a, N' a → N a) ∧ σ[j]? = some (some (.ref q)) ∧ Rep c.b N' H (.lst ds) (.ref q) ∧ Rn c N' (ρ.set j none) g σ H := by
  obtain ⟨q, h1, h2, h3, h4⟩ := R.own j hj _ e rfl
  have h2' : c.H0 q = none := h2.resolve_right (hfr q)
  obtain ⟨v, h5, h6⟩ := R.slot j _ e
  rw [h1] at h5
  injection h5 with h5
  injection h5 with h5
  subst h5
  obtain ⟨p, vs, e1, g1, q1, r1⟩ := h6
  injection e1 with e1
  subst e1
  have sub : ∀ a, (N a ∧ a ≠ q) → N a ∨ H a = none := fun a z => .inl z.1
  have key : ∀ {k : Nat} {d : D}, (ρ.set j none)[k]? = some (some d) → k ≠ j ∧ ρ[k]? = some (some d) := fun {k d} e => by
    rcases get_set e with ⟨_, e2⟩ | h
    · cases e2
    · exact h
  refine ⟨fun a => N a ∧ a ≠ q, q, fun a z => z.1, h1, ⟨q, vs, rfl, g1, fun z => z.2 rfl, q1, r1.stay Stay.refl sub⟩, R.gh, R.keep, fun a z => ⟨R.n0 a z, fun w => hn0 a z (w ▸ h2')⟩, fun a z => ⟨R.ng a z, fun w => g1 (w ▸ z)⟩, fun a z => R.nt a z.1, by rw [List.length_set]; exact R.len, fun k d ek => ?_, fun k hk d ek ht => ?_, fun z hzz => ?_, fun z hzz => (R.pin z hzz).stay Stay.refl sub⟩
  · obtain ⟨k1, k2⟩ := key ek
    obtain ⟨v, h7, h8⟩ := R.slot k d k2
    exact ⟨v, h7, h8.less fun a z => z.1⟩
  · obtain ⟨k1, k2⟩ := key ek
    obtain ⟨p, h7, h8, h9, h10⟩ := R.own k hk d k2 ht
    refine ⟨p, h7, h8, ⟨h9, fun w => ?_⟩, fun m d' hm em tm => ?_⟩
    · subst w; exact h4 k d k1 k2 ht h7
    · exact h10 m d' hm (key em).2 tm
  · have h0 := c.hZ z hzz
    obtain ⟨h7, h8⟩ := R.frz z hzz
    have hne : j ≠ z.1 := fun w => hz (w ▸ h0)
    exact ⟨h7, by rw [List.getElem?_set_ne hne]; exact h8⟩
@[simp] def tAppGiveT {G : Type} (i j : Nat) : TTS G := fun TD _ ρ g => ∃ es ds, ρ[i]? = some (some (.lst es)) ∧ ρ[j]? = some (some (.lst ds)) ∧ es.length < sizeLine ∧ TD.nx ((ρ.set j none).set i (some (.lst (es ++ [.lst ds])))) g
theorem st_appGive (i j : Nat) {x y : Str} {p py apos cpos pos : Pos} (hij : i ≠ j := by decide) (hn0 : ∀ a, c.N0 a → c.H0 a ≠ none) (hfr : ∀ a, ¬ c.Fr a := by exact fun _ z => z) (hM : c.M.contains i = true := by rfl) (hz : c.zk.contains i = false := by rfl) (hMj : c.M.contains j = true := by rfl) (hzj : c.zk.contains j = false := by rfl) (hN : X.N[i]? = some x := by rfl) (hNj : X.N[j]? = some y := by rfl)
    (hv : Vis X.env.scope x := by first | exact Or.inl rfl | exact Or.inr (Or.inl rfl) | exact Or.inr (Or.inr rfl)) (hvy : Vis X.env.scope y := by first | exact Or.inl rfl | exact Or.inr (Or.inl rfl) | exact Or.inr (Or.inr rfl)) (hd : (x == ("__debug__" : Str)) = false := by decide)
    (hcd : (x == ("__classdict__" : Str)) = false := by decide) (hdy : (y == ("__debug__" : Str)) = false := by decide) (hcdy : (y == ("__classdict__" : Str)) = false := by decide)
    (hfew : ((backTo cpos (starEach [.Name y py] X.env)).all (fun x => !x.1) && (backToKw cpos (keywordEach [] X.env)).all (fun x => x.1.isSome) && decide ([Expr.Name y py].length + ([] : List Keyword).length + (if ([] : List Keyword).isEmpty then 0 else 1) < 30)) = true := by rfl)
    (hline : (apos.endLine == cpos.line) = true := by rfl) (hs : starEach [.Name y py] X.env = (false, eval (.Name y py) X.env) :: starEach [] X.env := by rfl) (hplain : (backTo cpos (starEach [] X.env)).any (·.1) = false := by rfl)
    (hsw : swapsWith (.Call (.Attribute (.Name x p) "append" apos) [.Name y py] [] cpos) none pos.line X.env = pure false := by rfl) :
    PSt c X (.Expr (.Call (.Attribute (.Name x p) "append" apos) [.Name y py] [] cpos) pos) (tAppGiveT i j) :=
  ⟨fun ex ok => PS.weak (ps_expr (pe_bm PySem.F.plainAttrs_list PySem.F.slot_list_append PySem.F.type_list_append mt_append (pe_var hN hv hd hcd) (pa_cons (pe_var hNj hvy hdy hcdy) pa_nil hs) rfl hfew hline hs hplain) hsw) fun D σ H ⟨N, ρ, g, TD, R, ⟨es, ds, e0, ej, hl, q⟩, F⟩ => by
    obtain ⟨N', qa, hsub, hq1, hq2, R2⟩ := R.give (j := j) (by simpa using hMj) (by simpa using hzj) ej hn0 hfr
    have e0' : (ρ.set j none)[i]? = some (some (.lst es)) := by rw [List.getElem?_set_ne (Ne.symm hij)]; exact e0
    obtain ⟨v, h1, h2⟩ := R2.slot i _ e0'
    obtain ⟨l, vs, e1, g1, q1, r1⟩ := h2
    subst e1
    refine ⟨.ref l, h1, .inl ⟨rfl, vs, SqL.of q1⟩, .ref qa, hq1, l, vs, .ref qa, rfl, rfl, q1, by rw [← r1.length]; exact hl, F.nx _ _ _ _ _ (R2.write (by simpa using hM) e0' rfl h1 (nrd_lst q1) (by simpa using hz) ?_ g1 rfl) q⟩
    have h3N : N' l := by
      obtain ⟨p', h5, _, h7, _⟩ := R2.own i (by simpa using hM) _ e0' rfl
      rw [h1] at h5
      injection h5 with h5
      injection h5 with h5
      injection h5 with h5
      exact h5 ▸ h7
    have stay : Stay c.b N' H (upd H l (.lst (vs ++ [.ref qa]))) := fun a ob ea _ q => by
      refine (upd_ne (fun z => ?_)).trans ea
      subst z
      exact q.elim (fun ⟨xs, w⟩ => nrd_lst q1 xs w) fun w => w h3N
    exact ⟨l, _, rfl, g1, upd_same, (r1.append (reps_cons hq2 reps_nil)).stay stay fun a z => .inl z⟩⟩
end
end TL
set_option Elab.async false
set_option linter.all false
set_option maxRecDepth 100000
set_option maxHeartbeats 4000000
/-! TL22: return [x, e, ..], x one's own list. -/
namespace TL
open PySem PySem.Spec PyProof.Rows L2
section
variable {c : C} {X : Cx} {es : List Expr} {tr : TTA c.b.G} {x : Str} {p lp pos : Pos}
@[simp] def tRetGiveT {G : Type} (i : Nat) (tr : TTA G) : TTS G := fun TD ex ρ g => ∃ ds0, ρ[i]? = some (some (.lst ds0)) ∧ tr ρ g ex fun ds g' => ds.length + 1 ≤ sizeLine ∧ TD.rt (.lst (.lst ds0 :: ds)) g'
theorem st_retGive (i : Nat) (ha : PAt c .r X es tr) (hn0 : ∀ a, c.N0 a → c.H0 a ≠ none) (hfr : ∀ a, ¬ c.Fr a := by exact fun _ z => z) (hM : c.M.contains i = true := by rfl) (hz : c.zk.contains i = false := by rfl) (hN : X.N[i]? = some x := by rfl) (hv : Vis X.env.scope x := by first | exact Or.inl rfl | exact Or.inr (Or.inl rfl) | exact Or.inr (Or.inr rfl)) (hd : (x == ("__debug__" : Str)) = false := by decide)
    (hcd : (x == ("__classdict__" : Str)) = false := by decide) (hs : starEach (.Name x p :: es) X.env = (false, eval (.Name x p) X.env) :: starEach es X.env := by rfl) : PSt c X (.Return (some (.List (.Name x p :: es) lp)) pos) (tRetGiveT i tr) :=
  ⟨fun ex ok => PS.weak (ps_ret (pe_lst (pa_cons (pe_var hN hv hd hcd) (ha.run ex ok) hs))) fun D σ H ⟨N, ρ, g, TD, R, ⟨ds0, e0, q⟩, F⟩ => by
    obtain ⟨v, h1, h2⟩ := R.slot i _ e0
    refine ⟨v, h1, N, ρ, g, R, ha.mono _ _ _ _ _ (fun ds g' q' vs H1 R1 t1 k1 r1 => ?_) q⟩
    obtain ⟨N', qa, hsub, hq1, hq2, R2⟩ := R1.give (j := i) (by simpa using hM) (by simpa using hz) e0 hn0 hfr
    rw [h1] at hq1
    injection hq1 with hq1
    injection hq1 with hq1
    subst hq1
    refine ⟨by rw [List.length_cons, ← r1.length]; exact q'.1, fun l hl => ?_⟩
    obtain ⟨R3, sm⟩ := laid (H1 := H1) (o := .lst (.ref qa :: vs)) R1 hl
    have hl0 : c.H0 l = none := by
      cases e : c.H0 l with
      | none => rfl
      | some o => rw [R1.keep l o e (R1.fresh hl).1 (hfr l)] at hl; cases hl
    have r1' : Reps c.b N H1 ds vs := r1.reps
    have hgo : ∀ {M : Addr → Prop}, (∀ a, M a → c.N0 a ∨ a = l) → Reps c.b M (upd H1 l (.lst (.ref qa :: vs))) (.lst ds0 :: ds) (.ref qa :: vs) := fun {M} hMm => by
      refine reps_cons (Rep.stay (N := N') (Keep.same sm).stay (fun a z => (hMm a z).imp (R2.n0 a) fun (w : a = l) => by rw [w]; exact hl) hq2) (r1'.stay (Keep.same sm).stay fun a z => (hMm a z).imp (R1.n0 a) fun (w : a = l) => by rw [w]; exact hl)
    refine F.rt _ _ _ _ _ (.lst (.lst ds0 :: ds)) (.ref l) R3 ⟨⟨l, _, rfl, (R1.fresh hl).1, fun z => (R1.fresh hl).2 (R1.n0 l z), upd_same, hgo fun a z => .inl z⟩, fun _ => ⟨l, rfl, hl0, l, _, rfl, (R1.fresh hl).1, upd_same, hgo fun a z => z⟩⟩ q'.2⟩
end
end TL
set_option Elab.async false
set_option linter.all false
set_option maxRecDepth 100000
set_option maxHeartbeats 4000000
/-! TL23: dicts with nested tuple keys over trees. -/
namespace TL
open PySem PySem.Spec PyProof.Rows L2
/-! ### keys in the abstract heap -/
mutual
inductive Nk (K : PySem.W.Frag) (H : Hp) : NestedKey → V → Prop
  | non : Nk K H .none .non
  | bl (b : Bool) : Nk K H (.num (if b = true then 1 else 0)) (.bl b)
  | int (i : Int) : Nk K H (.num i) (.int i)
  | str (x : Str) : Nk K H (.text x) (.str x)
  | tup {a : Addr} {xs : List V} {ks : List NestedKey} : SqT K H a xs → NkAll K H ks xs → Nk K H (.tup ks) (.ref a)
inductive NkAll (K : PySem.W.Frag) (H : Hp) : List NestedKey → List V → Prop
  | nil : NkAll K H [] []
  | cons {k : NestedKey} {v : V} {ks : List NestedKey} {vs : List V} : Nk K H k v → NkAll K H ks vs → NkAll K H (k :: ks) (v :: vs)
end
mutual
theorem Nk.is {P : Program} {w : World} {K : PySem.W.Frag} {H : Hp} {h : Heap} (hok : HOk P w H h) (KX : K.In h) : ∀ (k : NestedKey) (v : V) (u : Value), Nk K H k v → RelV v u → NestedIs h k u
  | .none, _, _, x, r => by cases x; cases r; exact .none
  | .num _, _, _, x, r => by
    cases x with
    | bl b => cases r; exact .bool rfl
    | int i => obtain ⟨t, rfl⟩ := r; exact .int _ _
  | .text _, _, _, x, r => by cases x; obtain ⟨t, rfl⟩ := r; exact .text _ _
  | .tup ks, _, _, x, r => by
    cases x with
    | tup hs ha =>
      cases r
      obtain ⟨its, o, n, rv, ho, hc, hd⟩ := sqT_at hok KX hs
      exact .tup ho hc hd (by simpa using NkAll.is hok KX ks _ its ha rv)
theorem NkAll.is {P : Program} {w : World} {K : PySem.W.Frag} {H : Hp} {h : Heap} (hok : HOk P w H h) (KX : K.In h) : ∀ (ks : List NestedKey) (vs : List V) (us : List Value), NkAll K H ks vs → Vals vs us → NestedAll h ks us
  | [], _, _, x, r => by cases x; cases r; exact .nil
  | k :: ks, _, _, x, r => by
    cases x with
    | cons x1 x2 => cases r with
      | cons r1 r2 => exact .cons (Nk.is hok KX k _ _ x1 r1) (NkAll.is hok KX ks _ _ x2 r2)
end
mutual
theorem rep_nk {b : B} {N : Addr → Prop} {H : Hp} : ∀ {d : D} {v : V}, Rep b N H d v → d.nkPl = true → Nk b.K H d.nk v
  | .non, v, h, _ => by cases (show v = .non from h); exact .non
  | .bl _, v, h, _ => by cases (show v = .bl _ from h); exact .bl _
  | .int _, v, h, _ => by cases (show v = .int _ from h); exact .int _
  | .str _, v, h, _ => by cases (show v = .str _ from h); exact .str _
  | .tup ds, v, h, p => by
    obtain ⟨a, vs, e, g, q, r⟩ := h
    subst e
    exact .tup q (reps_nk r p)
  | .lst _, _, _, p => by cases p
  | .obj _ _ _, _, _, p => by cases p
  | .sel _ _ _ _, _, _, p => by cases p
  | .dct _ _ _, _, _, p => by cases p
  | .xdt _ _, _, _, p => by cases p
  | .hnd _, _, _, p => by cases p
theorem reps_nk {b : B} {N : Addr → Prop} {H : Hp} : ∀ {ds : List D} {vs : List V}, Reps b N H ds vs → nkPls ds = true → NkAll b.K H (nks ds) vs
  | [], vs, h, _ => by cases (show vs = [] from h); exact .nil
  | d :: ds, vs, h, p => by
    obtain ⟨v, r, e, h1, h2⟩ := h
    subst e
    obtain ⟨p1, p2⟩ : d.nkPl = true ∧ nkPls ds = true := Bool.and_eq_true_iff.mp p
    exact .cons (rep_nk h1 p1) (reps_nk h2 p2)
end
/-- the dict at p with entries es, the key k at b -/
structure NkAt (K : PySem.W.Frag) (H : Hp) (k : NestedKey) (b : Addr) : Prop where
  is : Nk K H k (.ref b)
  dep : k.depth ≤ 8
structure NDct (w : World) (K : PySem.W.Frag) (H : Hp) (p : Addr) (es : Ents) : Prop where
  at' : H p = some (DctO w p es)
  keys : ∀ e ∈ es, NkAt K H e.1 e.2.1
section
variable {X : Cx} {pins : List (Addr × Obj)} {σ : L2.St} {H : Hp} {s : Shared} {p b : Addr} {es : Ents} {k : NestedKey}
theorem NkAt.in (x : NkAt X.K H k b) (I : Inv X pins σ H s) : NestedIs s.heap k (.ref b) ∧ k.depth ≤ 8 := ⟨Nk.is I.hok I.kIn _ _ _ x.is rfl, x.dep⟩
theorem NDct.ks (x : NDct X.w X.K H p es) (I : Inv X pins σ H s) : KeysAt s.heap es := fun e he => (x.keys e he).in I
theorem NDct.typeIs (x : NDct X.w X.K H p es) (I : Inv X pins σ H s) : s.TypeIs (.ref p) "dict" := by
  obtain ⟨_, _, xs, _, _, o, _, _, ho, hx, _⟩ := dct_get I x.at'
  exact ⟨o, ho, hx.1⟩
theorem NDct.noDict (x : NDct X.w X.K H p es) (I : Inv X pins σ H s) : ∀ b, Value.ref p = .ref b → ∃ ob, s.heap.get? b = some ob ∧ ob.dict = none := fun b q => by
  cases q
  obtain ⟨_, _, xs, _, _, o, _, _, ho, hx, _⟩ := dct_get I x.at'
  exact ⟨o, ho, hx.2.1⟩
end
/-! ### readings over the abstract heap -/
def rNGet (w : World) (K : PySem.W.Frag) : V → V → Hp → VK → Prop := fun x y H Q => ∃ p b es k v, x = .ref p ∧ y = .ref b ∧ NDct w K H p es ∧ NkAt K H k b ∧ atN es k = some v ∧ Q v H
def tNGet (w : World) (K : PySem.W.Frag) (td ty : TE) : TE := fun σ H Q => td σ H fun x H1 => ty σ H1 fun y H2 => rNGet w K x y H2 Q
def rNNotIn (w : World) (K : PySem.W.Frag) : V → V → Hp → VK → Prop := fun y x H Q => ∃ p b es k, x = .ref p ∧ y = .ref b ∧ NDct w K H p es ∧ NkAt K H k b ∧ Q (.bl (!(atN es k).isSome)) H
def rNLen (w : World) (K : PySem.W.Frag) : List V → Hp → VK → Prop := fun xs H Q => ∃ p es, xs = [.ref p] ∧ NDct w K H p es ∧ Q (.int es.length) H
def sNPut (w : World) (K : PySem.W.Frag) (td ty tv : TE) : TS := fun D σ H => tv σ H fun v H1 => td σ H1 fun x H2 => ty σ H2 fun y H3 => ∃ p b es k, x = .ref p ∧ y = .ref b ∧ NDct w K H3 p es ∧ NkAt K H3 k b ∧ es.length < sizeLine ∧ D.nx σ (upd H3 p (DctO w p (putN es k b v)))
def tNSetd (w : World) (K : PySem.W.Frag) (td : TE) (t : TA) : TE := fun σ H Q => td σ H fun x H1 => (∃ p es, x = .ref p ∧ NDct w K H1 p es) ∧ t σ H1 fun xs H3 => ∃ p b es k v, x = .ref p ∧ xs = [.ref b, v] ∧ NDct w K H3 p es ∧ NkAt K H3 k b ∧ es.length < sizeLine ∧
  (∀ u, atN es k = some u → Q u H3) ∧ (atN es k = none → Q v (upd H3 p (DctO w p (es ++ [(k, b, v)]))))
def tNNew (w : World) : TE := fun _ H Q => ∀ p, H p = none → Q (.ref p) (upd H p (DctO w p []))
def tNDisp (w : World) (K : PySem.W.Frag) (ty tv : TE) : TE := fun σ H Q => ∀ p, H p = none → ty σ (upd H p (DctO w p [])) fun y H2 => tv σ H2 fun v H3 => ∃ b k, y = .ref b ∧ NDct w K H3 p [] ∧ NkAt K H3 k b ∧ Q (.ref p) (upd H3 p (DctO w p [(k, b, v)]))
section
variable {X : Cx} {o i e value ke ve : Expr} {pos pos' tpos apos cpos : Pos} {td ty tv : TE}
theorem pe_nget (hu : X.A.units + 66 < cLine) (ho : PE X o td) (hi : PE X i ty) (hs : NoSl i) : PE X (.Subscript o i pos) (tNGet X.w X.K td ty) := by
  refine ⟨fun pins s σ H Q I h => ?_⟩
  refine subD_of PySem.F.slot_dict_getitem.lookup hs (thn (ho.run pins s σ H _ I h) fun u s1 ⟨x, H1, I1, rx, q1⟩ => thn (hi.run pins s1 σ H1 _ I1 q1) fun iv s2 ⟨y, H2, I2, ry, p, b, es, k, v, ex, ey, g, kb, hv, q2⟩ => ?_)
  subst ex ey
  obtain rfl : u = Value.ref p := rx
  obtain rfl : iv = Value.ref b := ry
  exact ⟨g.typeIs I2, n_getItem hu I2 g.at' (g.ks I2) (kb.in I2) hv fun w' s3 I3 rw' => ⟨v, H2, I3, rw', q2⟩⟩
theorem or_nnotin (hu : X.A.units + 66 < cLine) : OpR X (compareOp .NotIn) (rNNotIn X.w X.K) := by
  intro pins s σ H y x u v Q I ry rx h
  obtain ⟨p, b, es, k, rfl, rfl, g, kb, q⟩ := h
  cases ry
  cases rx
  exact n_notIn hu I g.at' (g.ks I) (kb.in I) fun s' I' => ⟨.bl (!(atN es k).isSome), H, I', rfl, q⟩
theorem cr_nlen : CallR X (.builtin "len") (rNLen X.w X.K) := by
  intro pins s σ H xs us Q I r h
  obtain ⟨p, es, rfl, g, q⟩ := h
  obtain ⟨u, rfl, rx⟩ := vals1 r
  obtain rfl : u = Value.ref p := rx
  exact n_len I g.at' (g.ks I) fun t s' I' => ⟨.int es.length, H, I', ⟨t, rfl⟩, q⟩
theorem ps_nput (hu : X.A.units + 66 < cLine) (ho : PE X o td) (hi : PE X i ty) (hv : PE X value tv) (hs : swapsWith value (some (.Subscript o i pos')) pos.line X.env = pure false) :
    PS X (.Assign [.Subscript o i pos'] value pos) (sNPut X.w X.K td ty tv) := by
  refine ⟨fun pins s σ H D I h => ?_⟩
  refine wpAny_Assign_Subscript (thn (hv.run pins s σ H _ I h) fun r s1 ⟨v, H1, I1, rv, q1⟩ => thn (ho.run pins s1 σ H1 _ I1 q1) fun u s2 ⟨x, H2, I2, rx, q2⟩ => thn (hi.run pins s2 σ H2 _ I2 q2) fun iv s3 ⟨y, H3, I3, ry, p, b, es, k, ex, ey, g, kb, hl, q3⟩ => ?_) hs
  subst ex ey
  obtain rfl : u = Value.ref p := rx
  obtain rfl : iv = Value.ref b := ry
  exact n_setItem hu I3 g.at' (g.ks I3) (kb.in I3) hl rv fun s4 I4 => ⟨σ, _, I4, q3⟩
theorem pe_nnew : PE X (.Dict [] [] pos) (tNNew X.w) := ⟨fun pins s σ H Q I h =>
  wpAny_Dict_empty ⟨.ref s.heap.objs.size, _, I.laid (a := s.heap.objs.size) (o := DctO X.w s.heap.objs.size []) (t' := s.toks) (fun _ _ q => Heap.get?_push_of_some _ q) (Nat.le_refl _) (dct_ok (n_new s.heap I.big X.w)), rfl, h _ (I.hok.fresh (Nat.le_refl _))⟩⟩
theorem pe_ndisp (hu : X.A.units + 66 < cLine) (hk : PE X ke ty) (hv : PE X ve tv) : PE X (.Dict [some ke] [ve] pos) (tNDisp X.w X.K ty tv) := by
  refine ⟨fun pins s σ H Q I q => ?_⟩
  have hn := I.hok.fresh (Nat.le_refl s.heap.objs.size)
  have I1 := I.laid (a := s.heap.objs.size) (o := DctO X.w s.heap.objs.size []) (h' := s.heap.push { cls := .type "dict", data := .dict #[] }) (t' := s.toks) (fun _ _ q => Heap.get?_push_of_some _ q) (Nat.le_refl _) (dct_ok (n_new s.heap I.big X.w))
  have hpl : (pairTrees [some ke] [ve] X.env pos).length = 1 := pairTrees_length [some ke] [ve] X.env pos rfl rfl
  rw [arm_eval_Dict, zip_pairTrees [some ke] [ve] X.env pos rfl rfl, dictDisplay_pairs _ (fun z => by rw [z] at hpl; cases hpl) (by rw [hpl]; decide)]
  refine wpAny_bind (wpAny_standAt (wpAny_bind (wpAny_subDictH (knd := nestedKind X.prog X.w) (Q := fun d s' => wpAny (model X.prog X.w) X.A (pure (Value.ref d)) (EP X pins σ Q) X.xe s') (by show X.A.units + 8 < cLine; omega) (by rw [hpl]; decide) ?_)))
  refine pairTrees_cons_walk (thn (hk.run pins _ σ _ _ I1 (q _ hn)) fun u s2 ⟨y, H2, I2, ry, q2⟩ => thn (hv.run pins s2 σ H2 _ I2 q2) fun r s3 ⟨v, H3, I3, rv, b, k, ey, g, kb, q3⟩ => pairTrees_nil_walk ?_)
  subst ey
  obtain rfl : u = Value.ref b := ry
  have R := dct_get I3 g.at'
  obtain ⟨xs, h1, h2⟩ := dct_of R (g.ks I3)
  cases h1
  refine ⟨[(k, b, r)], ⟨rfl, rfl, kb.in I3, trivial⟩, h2, fun h' tk hm hs => wpAny_pure ?_⟩
  have kp : KN [(k, b, v)] [(k, b, r)] := .cons ⟨rfl, rfl, rv⟩ .nil
  exact ⟨.ref s.heap.objs.size, _, n_write I3 g.at' hs (dct_back (Nat.le_trans (Nat.le_of_ble_eq_true rfl : 1 ≤ 1000000) (by rw [sizeLine_eq]; decide)) R.2.1 kp hm), rfl, q3⟩
theorem pe_nsetd {es' : List Expr} {t : TA} (hu : X.A.units + 66 < cLine) (ho : PE X o td) (ha : PA X (e :: es') t)
    (hbase : attributeBase o "setdefault" X.env (eval o X.env) = eval o X.env := by rfl)
    (hfew : ((backTo cpos (starEach (e :: es') X.env)).all (fun x => !x.1) && (backToKw cpos (keywordEach [] X.env)).all (fun x => x.1.isSome)
      && decide ((e :: es').length + ([] : List Keyword).length + (if ([] : List Keyword).isEmpty then 0 else 1) < 30)) = true := by rfl)
    (hline : (apos.endLine == cpos.line) = true := by rfl) (hs : starEach (e :: es') X.env = (false, eval e X.env) :: starEach es' X.env := by rfl) (hplain : (backTo cpos (starEach es' X.env)).any (·.1) = false := by rfl) :
    PE X (.Call (.Attribute o "setdefault" apos) (e :: es') [] cpos) (tNSetd X.w X.K td t) := by
  refine ⟨fun pins s σ H Q I h => ?_⟩
  refine wpAny_Call_method_late hbase hfew hline rfl (thn (ho.run pins s σ H _ I h) fun v s1 ⟨x, H1, I1, r1, ⟨p, es0, ex, g0⟩, q1⟩ => ?_)
  subst ex
  obtain rfl : v = Value.ref p := r1
  refine ⟨"dict", "dict.setdefault", F.plainAttrs_dict, F.slot_dict_setdefault, F.type_dict_setdefault, g0.typeIs I1, g0.noDict I1, ?_⟩
  have hA := ha.run cpos pins s1 σ H1 _ I1 q1
  rw [hs] at hA ⊢
  refine Calls.callWith_builtin (by show (false || (backTo cpos (starEach es' X.env)).any (·.1)) = false; rw [hplain] <;> rfl) (Calls.evalArgs_plain ?_)
  refine thn hA fun us s2 ⟨vs, H2, I2, r2, p', b, es, k, v, e1, e2, g, kb, hl, h1, h0⟩ => ?_
  cases e1
  subst e2
  obtain ⟨u, r, rfl, ru, rv⟩ := r2.two
  obtain rfl : u = Value.ref b := ru
  exact n_setdefault hu I2 g.at' (g.ks I2) (kb.in I2) hl rv (fun w w' s' hw I' rw' => ⟨w, H2, I', rw', h1 w hw⟩) fun s' hn I' => ⟨v, _, I', rv, h0 hn⟩
end
section
variable {c : C}
end
end TL
set_option Elab.async false
set_option linter.all false
set_option maxRecDepth 100000
set_option maxHeartbeats 4000000
/-! TL24: dicts with nested tuple keys, tree rules. -/
namespace TL
open PySem PySem.Spec PyProof.Rows L2
theorem keys_of {b : B} {N : Addr → Prop} {H : Hp} : ∀ {kd : List D} {es : Ents}, es.map (·.1) = nks kd → (∀ d ∈ kd, d.kOk) → Reps b N H kd (es.map fun e => V.ref e.2.1) → ∀ e ∈ es, NkAt b.K H e.1 e.2.1
  | [], es, h, _, _, e, he => by
    cases es with
    | nil => cases he
    | cons a l => cases h
  | d :: kd, [], h, _, _, e, he => by cases he
  | d :: kd, a :: es, h, hk, r, e, he => by
    obtain ⟨v, r', e1, h1, h2⟩ := r
    injection (show V.ref a.2.1 :: List.map (fun e : NestedKey × Addr × V => V.ref e.2.1) es = v :: r' from e1) with e2 e3
    subst e2 e3
    obtain ⟨h3, h4⟩ : a.1 = d.nk ∧ es.map (·.1) = nks kd := by simpa [nks] using h
    rcases List.mem_cons.mp he with rfl | he
    · have hd := hk d (List.mem_cons_self ..)
      exact ⟨by rw [h3]; exact rep_nk h1 hd.2.1, by rw [h3]; exact hd.2.2⟩
    · exact keys_of h4 (fun d hd => hk d (List.mem_cons_of_mem _ hd)) h2 e he
theorem dct_rep {b : B} {N : Addr → Prop} {H : Hp} {w : World} {kd ds : List D} {v : V} (r : RepB b N H (.dct w kd ds) v) : ∃ p es, v = .ref p ∧ ¬ b.Γ p ∧ NDct w b.K H p es ∧ es.map (·.1) = nks kd ∧ (∀ d ∈ kd, d.kOk) ∧ Reps b N H kd (es.map fun e => V.ref e.2.1) ∧ Reps b N H ds (es.map fun e => e.2.2) := by
  obtain ⟨p, es, e, g, q, ⟨f1, f2⟩, r1, r2⟩ := r
  exact ⟨p, es, e, g, ⟨q, keys_of f1 f2 r1⟩, f1, f2, r1, r2⟩
theorem key_rep {b : B} {N : Addr → Prop} {H : Hp} {d : D} {v : V} (r : RepB b N H d v) (h : d.kOk) : ∃ a, v = .ref a ∧ NkAt b.K H d.nk a ∧ Rep b N H d (.ref a) := by
  obtain ⟨h1, h2, h3⟩ := h
  cases d with
  | tup ds =>
    obtain ⟨a, vs, e, g, q, rs⟩ := r
    subst e
    have rr : Rep b N H (.tup ds) (.ref a) := ⟨a, vs, rfl, g, q, rs⟩
    exact ⟨a, rfl, ⟨rep_nk rr h2, h3⟩, rr⟩
  | _ => cases h1
/-- the value at a key -/
def atD : List D → List D → NestedKey → Option D
  | kd :: ks, d :: ds, k => if kd.nk = k then some d else atD ks ds k
  | _, _, _ => none
theorem atN_cons (e : NestedKey × Addr × V) (es : Ents) (k : NestedKey) : atN (e :: es) k = if e.1 = k then some e.2.2 else atN es k := by
  unfold atN
  by_cases h : e.1 = k <;> simp [List.find?_cons, h]
theorem at_reps {b : B} {N : Addr → Prop} {H : Hp} (k : NestedKey) : ∀ {kd ds : List D} {es : Ents}, es.map (·.1) = nks kd → Reps b N H ds (es.map fun e => e.2.2) → (∀ d, atD kd ds k = some d → ∃ v, atN es k = some v ∧ Rep b N H d v) ∧ ((atN es k).isSome = decide (k ∈ nks kd)) ∧ (atD kd ds k).isSome = decide (k ∈ nks kd)
  | [], ds, es, h, r => by
    have : es = [] := by
      cases es with
      | nil => rfl
      | cons a l => cases h
    subst this
    cases (show ds = [] from List.length_eq_zero_iff.mp (by rw [r.length]; rfl))
    exact ⟨fun d h => (nomatch h), rfl, rfl⟩
  | kx :: kd, ds, [], h, _ => by cases h
  | kx :: kd, [], e :: es, _, r => by cases (show (e :: es).map (fun e : NestedKey × Addr × V => e.2.2) = [] from r)
  | kx :: kd, d :: ds, e :: es, h, r => by
    obtain ⟨v, r', e1, h1, h2⟩ := r
    injection (show e.2.2 :: List.map (fun e : NestedKey × Addr × V => e.2.2) es = v :: r' from e1) with e2 e3
    subst e2 e3
    obtain ⟨h3, h4⟩ : e.1 = kx.nk ∧ es.map (·.1) = nks kd := by simpa [nks] using h
    obtain ⟨i1, i2, i3⟩ := at_reps k h4 h2
    rw [atN_cons]
    unfold atD nks
    rw [h3]
    by_cases hk : kx.nk = k
    · rw [if_pos hk, if_pos hk]
      refine ⟨fun d' hd => ?_, by simp [hk], by simp [hk]⟩
      injection hd with hd
      subst hd
      exact ⟨_, rfl, h1⟩
    · rw [if_neg hk, if_neg hk]
      have e : decide (k ∈ kx.nk :: nks kd) = decide (k ∈ nks kd) := by
        have : ¬ k = kx.nk := fun z => hk z.symm
        simp [this]
      rw [e]
      exact ⟨i1, i2, i3⟩
theorem atN_none {es : Ents} {k : NestedKey} (h : (atN es k).isSome = false) : atN es k = none := by
  cases e : atN es k with
  | none => rfl
  | some v => rw [e] at h; cases h
theorem nrd_ext {H : Hp} {p : Addr} {φ : Heap → Prop} (h : H p = some (.ext φ)) (xs : List V) : ¬ Rd H p (.tup xs) := fun z => by
  rcases z with z | ⟨o, z⟩
  · rw [h] at z; cases z
  · rw [h] at z; cases z
@[simp] def oIxD (w : World) : D → D → (D → Prop) → Prop
  | .dct w' kd ds, k, Q => (w' = w ∧ k.kOk) ∧ ∃ d, atD kd ds k.nk = some d ∧ Q d
  | _, _, _ => False
@[simp] def oNotInD (w : World) : D → D → (D → Prop) → Prop
  | k, .dct w' kd ds, Q => (w' = w ∧ k.kOk) ∧ Q (.bl (!decide (k.nk ∈ nks kd)))
  | _, _, _ => False
@[simp] def oLenD (w : World) : List D → (D → Prop) → Prop
  | [.dct w' kd ds], Q => w' = w ∧ Q (.int kd.length)
  | _, _ => False
section
variable {c : C} {X : Cx} {s s1 s2 : S} {e a b' o ke ve : Expr} {t ta tb tk tv : TTE c.b.G} {tr : TTA c.b.G} {pos p pos' apos cpos : Pos} {x : Str} {es' : List Expr}
theorem oIxD_mono {w : World} : ∀ d1 d2 Q Q', (∀ d, Q d → Q' d) → oIxD w d1 d2 Q → oIxD w d1 d2 Q' := fun d1 d2 Q Q' w q => by
  cases d1 <;> first | exact q.elim | (obtain ⟨h, d, h2, q⟩ := q; exact ⟨h, d, h2, w _ q⟩)
/-- d[k] -/
theorem et_nget (ha : PEt c s1 X a ta) (hb : PEt c s2 X b' tb) (hs : NoSl b' := by exact fun _ _ => rfl) : PEt c .r X (.Subscript a b' pos) (tOpT (oIxD X.w) ta tb) :=
  ⟨fun ρ g ex Q Q' w q => ha.mono _ _ _ _ _ (fun x g1 q => hb.mono _ _ _ _ _ (fun y g2 q => oIxD_mono _ _ _ _ (fun d q => w _ _ q) q) q) q,
   fun ex ok => PE.weak (pe_nget ok.units (ha.run ex ok) (hb.run ex ok) hs) fun σ H Q ⟨N, ρ, g, R, q⟩ => by
    refine ⟨N, ρ, g, R, ha.mono _ _ _ _ _ (fun d1 g1 q x H1 R1 t1 k1 r1 => ?_) q⟩
    refine ⟨N, ρ, g1, R1, hb.mono _ _ _ _ _ (fun d2 g2 q' y H2 R2 t2 k2 r2 => ?_) q⟩
    cases d1 with
    | dct w' kd ds =>
      obtain ⟨⟨rfl, hk⟩, d, hd, q'⟩ := q'
      obtain ⟨p, es, rfl, _, g, f1, f2, r3, r4⟩ := dct_rep (RepS.tob (r1.keep k2))
      obtain ⟨bk, rfl, kb, _⟩ := key_rep r2.tob hk
      obtain ⟨v, hv, rv⟩ := (at_reps d2.nk f1 r4).1 d hd
      exact ⟨p, bk, es, _, v, rfl, rfl, ok.hK ▸ g, ok.hK ▸ kb, hv, q' v H2 R2 (fun a z => t2 a (t1 a z)) (k1.trans k2) rv⟩
    | _ => exact q'.elim⟩
/-- k not in d -/
theorem ot_nnotin : OpTR X c (compareOp .NotIn) (oNotInD X.w) :=
  ⟨fun d1 d2 Q Q' w q => by cases d2 <;> first | exact q.elim | exact ⟨q.1, w _ q.2⟩,
   fun hK hu => ⟨_, or_nnotin hu, fun N d1 d2 x y H Qd Qv fr r1 r2 q k => by
    cases d2 with
    | dct w' kd ds =>
      obtain ⟨⟨rfl, hk⟩, q⟩ := q
      obtain ⟨p, es, rfl, _, g, f1, f2, r3, r4⟩ := dct_rep r2
      obtain ⟨bk, rfl, kb, _⟩ := key_rep r1 hk
      refine ⟨p, bk, es, _, rfl, rfl, hK ▸ g, hK ▸ kb, ?_⟩
      rw [(at_reps d1.nk f1 r4).2.1]
      exact k _ q _ _ (fun _ _ e => e) ⟨rfl, fun z => by cases z⟩
    | _ => exact q.elim⟩⟩
/-- len(d) -/
theorem ct_nlen : CallTR X c (.builtin "len") (oLenD X.w) :=
  ⟨fun ds Q Q' w q => by
    match ds, q with
    | [.dct w' kd ds], q => exact ⟨q.1, w _ q.2⟩,
   fun hK => ⟨_, cr_nlen, fun N ds vs H Qd Qv fr r q k => by
    match ds, q with
    | [.dct w' kd ds], q =>
      obtain ⟨rfl, q⟩ := q
      obtain ⟨v, rfl, r'⟩ := reps1 r
      obtain ⟨p, es, rfl, _, g, f1, f2, r3, r4⟩ := dct_rep r'
      refine ⟨p, es, rfl, hK ▸ g, ?_⟩
      have e : es.length = kd.length := by have := r3.length; simpa using this.symm
      rw [e]
      exact k _ q _ _ (fun _ _ e => e) ⟨rfl, fun z => by cases z⟩⟩⟩
/-- {} -/
@[simp] def tNNewT {G : Type} (w : World) : TTE G := fun _ g _ Q => Q (.dct w [] []) g
theorem repDct {N : Addr → Prop} {H : Hp} {p : Addr} {w : World} (fr : ∀ p, H p = none → ¬ c.b.Γ p ∧ ¬ N p) (hp : H p = none) : Same H (upd H p (DctO w p [])) ∧ RepS .f c.b N H (upd H p (DctO w p [])) (.dct w [] []) (.ref p) := by
  have sm : Same H (upd H p (DctO w p [])) := fun a u e => by rw [upd_ne (ne_of_none e hp)]; exact e
  exact ⟨sm, ⟨p, [], rfl, (fr p hp).1, (fr p hp).2, upd_same, ⟨rfl, fun d hd => by cases hd⟩, reps_nil, reps_nil⟩, fun _ => ⟨p, rfl, hp, p, [], rfl, (fr p hp).1, upd_same, ⟨rfl, fun d hd => by cases hd⟩, reps_nil, reps_nil⟩⟩
theorem et_nnew : PEt c .f X (.Dict [] [] pos) (tNNewT X.w) :=
  ⟨fun ρ g ex Q Q' w q => w _ _ q, fun ex ok => PE.weak pe_nnew fun σ H Q ⟨N, ρ, g, R, q⟩ p hp => by
    obtain ⟨sm, rf⟩ := repDct (c := c) (w := X.w) (fun p z => R.fresh z) hp
    exact q _ _ (R.same sm) (fun a z => same_there sm a z) (.same sm) rf⟩
theorem nks_append : ∀ xs ys : List D, nks (xs ++ ys) = nks xs ++ nks ys
  | [], _ => rfl
  | x :: xs, ys => by rw [List.cons_append, nks, nks, nks_append xs ys, List.cons_append]
/-- an own dict gets a new key -/
theorem Rn.dctNew {N : Addr → Prop} {ρ : Rho} {g : c.b.G} {σ : L2.St} {H : Hp} {i : Nat} {w : World} {kd ds : List D} {p bk : Addr} {es : Ents} {kt vd : D} {v : V} (R : Rn c N ρ g σ H) (hi : i ∈ c.M) (hz : i ∉ c.zk) (e : ρ[i]? = some (some (.dct w kd ds))) (hp : σ[i]? = some (some (.ref p)))
    (hn : ¬ c.b.Γ p) (hH : H p = some (DctO w p es)) (f1 : es.map (·.1) = nks kd) (f2 : ∀ d ∈ kd, d.kOk) (r1 : Reps c.b N H kd (es.map fun e => V.ref e.2.1)) (r2 : Reps c.b N H ds (es.map fun e => e.2.2)) (hk : kt.kOk) (rk : Rep c.b N H kt (.ref bk)) (rv : Rep c.b N H vd v) :
    Rn c N (ρ.set i (some (.dct w (kd ++ [kt]) (ds ++ [vd])))) g σ (upd H p (DctO w p (es ++ [(kt.nk, bk, v)]))) := by
  have hN : N p := by
    obtain ⟨p', h5, _, h7, _⟩ := R.own i hi _ e rfl
    rw [hp] at h5
    injection h5 with h5
    injection h5 with h5
    injection h5 with h5
    exact h5 ▸ h7
  have stay : Stay c.b N H (upd H p (DctO w p (es ++ [(kt.nk, bk, v)]))) := fun a ob ea _ q => by
    refine (upd_ne (fun z => ?_)).trans ea
    subst z
    exact q.elim (fun ⟨xs, w⟩ => nrd_ext hH xs w) fun w => w hN
  refine R.write hi e rfl hp (nrd_ext hH) hz ⟨p, _, rfl, hn, upd_same, ⟨?_, fun d hd => ?_⟩, ?_, ?_⟩ hn rfl
  · rw [List.map_append, f1, nks_append]; rfl
  · rcases List.mem_append.mp hd with hd | hd
    · exact f2 d hd
    · rw [List.mem_singleton.mp hd]; exact hk
  · rw [List.map_append]
    exact (r1.append (reps_cons rk reps_nil)).stay stay fun a z => .inl z
  · rw [List.map_append]
    exact (r2.append (reps_cons rv reps_nil)).stay stay fun a z => .inl z
/-- d[k] = v, k new -/
@[simp] def tNPutT {G : Type} (w : World) (i : Nat) (tk t : TTE G) : TTS G := fun TD ex ρ g => t ρ g ex fun d g1 => (∃ kd0 ds0, ρ[i]? = some (some (.dct w kd0 ds0))) ∧ tk ρ g1 ex fun k g' => ∃ kd ds, ρ[i]? = some (some (.dct w kd ds)) ∧ (k.kOk ∧ k.nk ∉ nks kd ∧ kd.length < sizeLine) ∧ TD.nx (ρ.set i (some (.dct w (kd ++ [k]) (ds ++ [d])))) g'
theorem st_nput (i : Nat) (hk : PEt c s2 X ke tk) (he : PEt c .r X e t) (hM : c.M.contains i = true := by rfl) (hz : c.zk.contains i = false := by rfl) (hN : X.N[i]? = some x := by rfl) (hv : Vis X.env.scope x := by first | exact Or.inl rfl | exact Or.inr (Or.inl rfl) | exact Or.inr (Or.inr rfl)) (hd : (x == ("__debug__" : Str)) = false := by decide)
    (hcd : (x == ("__classdict__" : Str)) = false := by decide) (hs : swapsWith e (some (.Subscript (.Name x p) ke pos')) pos.line X.env = pure false := by rfl) : PSt c X (.Assign [.Subscript (.Name x p) ke pos'] e pos) (tNPutT X.w i tk t) :=
  ⟨fun ex ok => PS.weak (ps_nput ok.units (pe_var hN hv hd hcd) (hk.run ex ok) (he.run ex ok) hs) fun D σ H ⟨N, ρ, g, TD, R, q, F⟩ => ⟨N, ρ, g, R, he.mono _ _ _ _ _ (fun d g1 ⟨⟨kd0, ds0, e0⟩, q⟩ y H1 R1 t1 k1 r1 => by
    obtain ⟨v, h1, h2⟩ := R1.slot i _ e0
    refine ⟨v, h1, N, ρ, g1, R1, hk.mono _ _ _ _ _ (fun kt g' ⟨kd, ds, e2, ⟨hko, hnew, hl⟩, q⟩ kv H2 R2 t2 k2 r2 => ?_) q⟩
    obtain ⟨v', h3, h4⟩ := R2.slot i _ e2
    rw [h1] at h3
    injection h3 with h3
    injection h3 with h3
    subst h3
    obtain ⟨pp, es, rfl, hn, gd, f1, f2, r3, r4⟩ := dct_rep h4
    obtain ⟨bk, rfl, kb, rk⟩ := key_rep r2.tob hko
    have el : es.length = kd.length := by have := r3.length; simpa using this.symm
    have hat : atN es kt.nk = none := atN_none (by rw [(at_reps kt.nk f1 r4).2.1]; exact decide_eq_false hnew)
    refine ⟨pp, bk, es, _, rfl, rfl, ok.hK ▸ gd, ok.hK ▸ kb, by rw [el]; exact hl, ?_⟩
    have ep : putN es kt.nk bk y = es ++ [(kt.nk, bk, y)] := by unfold putN; rw [hat]; rfl
    rw [ep]
    exact F.nx _ _ _ _ _ (R2.dctNew (by simpa using hM) (by simpa using hz) e2 h1 hn gd.at' f1 f2 r3 r4 hko rk (Rep.keep k2 r1)) q) q⟩⟩
/-- d.setdefault(k, v), its value dropped -/
@[simp] def tNSetdT {G : Type} (w : World) (i : Nat) (t : TTA G) : TTS G := fun TD ex ρ g => (∃ kd0 ds0, ρ[i]? = some (some (.dct w kd0 ds0))) ∧ t ρ g ex fun xs g' => ∃ kd ds k v, xs = [k, v] ∧ ρ[i]? = some (some (.dct w kd ds)) ∧ (k.kOk ∧ kd.length < sizeLine) ∧
  (k.nk ∈ nks kd → TD.nx ρ g') ∧ (k.nk ∉ nks kd → TD.nx (ρ.set i (some (.dct w (kd ++ [k]) (ds ++ [v])))) g')
theorem st_nsetd (i : Nat) (ha : PAt c .r X (e :: es') tr) (hM : c.M.contains i = true := by rfl) (hz : c.zk.contains i = false := by rfl) (hN : X.N[i]? = some x := by rfl) (hv : Vis X.env.scope x := by first | exact Or.inl rfl | exact Or.inr (Or.inl rfl) | exact Or.inr (Or.inr rfl)) (hd : (x == ("__debug__" : Str)) = false := by decide)
    (hcd : (x == ("__classdict__" : Str)) = false := by decide)
    (hfew : ((backTo cpos (starEach (e :: es') X.env)).all (fun x => !x.1) && (backToKw cpos (keywordEach [] X.env)).all (fun x => x.1.isSome) && decide ((e :: es').length + ([] : List Keyword).length + (if ([] : List Keyword).isEmpty then 0 else 1) < 30)) = true := by rfl)
    (hline : (apos.endLine == cpos.line) = true := by rfl) (hs : starEach (e :: es') X.env = (false, eval e X.env) :: starEach es' X.env := by rfl) (hplain : (backTo cpos (starEach es' X.env)).any (·.1) = false := by rfl)
    (hsw : swapsWith (.Call (.Attribute (.Name x p) "setdefault" apos) (e :: es') [] cpos) none pos.line X.env = pure false := by rfl) :
    PSt c X (.Expr (.Call (.Attribute (.Name x p) "setdefault" apos) (e :: es') [] cpos) pos) (tNSetdT X.w i tr) :=
  ⟨fun ex ok => PS.weak (ps_expr (pe_nsetd ok.units (pe_var hN hv hd hcd) (ha.run ex ok) rfl hfew hline hs hplain) hsw) fun D σ H ⟨N, ρ, g, TD, R, ⟨⟨kd0, ds0, e0⟩, q⟩, F⟩ => by
    obtain ⟨v, h1, h2⟩ := R.slot i _ e0
    obtain ⟨p0, es0, rfl, _, g0, _⟩ := dct_rep h2
    refine ⟨.ref p0, h1, ⟨p0, es0, rfl, ok.hK ▸ g0⟩, N, ρ, g, R, ha.mono _ _ _ _ _ (fun xs g' ⟨kd, ds, kt, vd, ex', e2, ⟨hko, hl⟩, qin, qout⟩ us H2 R2 t2 k2 r2 => ?_) q⟩
    subst ex'
    obtain ⟨v', h3, h4⟩ := R2.slot i _ e2
    rw [h1] at h3
    injection h3 with h3
    injection h3 with h3
    subst h3
    obtain ⟨pp, es, ee, hn, gd, f1, f2, r3, r4⟩ := dct_rep h4
    injection ee with ee
    subst ee
    cases r2 with
    | cons ra rb => cases rb with
      | cons rb rc =>
        cases rc
        obtain ⟨bk, rfl, kb, rk⟩ := key_rep (RepS.tob ra) hko
        have el : es.length = kd.length := by have := r3.length; simpa using this.symm
        refine ⟨p0, bk, es, _, _, rfl, rfl, ok.hK ▸ gd, ok.hK ▸ kb, by rw [el]; exact hl, fun u hu => ?_, fun hu => ?_⟩
        · have hin : kt.nk ∈ nks kd := by
            have := (at_reps kt.nk f1 r4).2.1
            rw [hu] at this
            simpa using this.symm
          exact F.nx _ _ _ _ _ R2 (qin hin)
        · have hout : kt.nk ∉ nks kd := by
            have := (at_reps kt.nk f1 r4).2.1
            rw [hu] at this
            simpa using this.symm
          exact F.nx _ _ _ _ _ (R2.dctNew (by simpa using hM) (by simpa using hz) e2 h1 hn gd.at' f1 f2 r3 r4 hko rk rb) (qout hout)⟩
/-- {k: v} -/
@[simp] def tND1T {G : Type} (w : World) (tk tv : TTE G) : TTE G := fun ρ g ex Q => tk ρ g ex fun kd g1 => tv ρ g1 ex fun vd g2 => kd.kOk ∧ Q (.dct w [kd] [vd]) g2
theorem et_nd1 (hk : PEt c .r X ke tk) (hv : PEt c .r X ve tv) : PEt c .f X (.Dict [some ke] [ve] pos) (tND1T X.w tk tv) :=
  ⟨fun ρ g ex Q Q' w q => hk.mono _ _ _ _ _ (fun kd g1 q => hv.mono _ _ _ _ _ (fun vd g2 q => ⟨q.1, w _ _ q.2⟩) q) q,
   fun ex ok => PE.weak (pe_ndisp ok.units (hk.run ex ok) (hv.run ex ok)) fun σ H Q ⟨N, ρ, g, R, q⟩ p hp => by
    obtain ⟨fG, fN⟩ := R.fresh hp
    have sm : Same H (upd H p (DctO X.w p [])) := fun a u e => by rw [upd_ne (ne_of_none e hp)]; exact e
    have R1 : Rn c (fun a => N a ∨ a = p) ρ g σ (upd H p (DctO X.w p [])) := R.more hp (by rw [upd_same]; exact fun z => by cases z) (.same sm) (c.b.stab _ _ _ R.gh fun a o _ e => sm a o e) fun a z => same_there sm a z
    refine ⟨_, ρ, g, R1, hk.mono _ _ _ _ _ (fun kd g1 q y H2 R2 t2 k2 r2 => ?_) q⟩
    refine ⟨_, ρ, g1, R2, hv.mono _ _ _ _ _ (fun vd g2 q v H3 R3 t3 k3 r3 => ?_) q⟩
    have h3 : H3 p = some (DctO X.w p []) := k3 _ _ (k2 _ _ upd_same fG) fG
    have rk2 : Rep c.b (fun a => N a ∨ a = p) H3 kd y := Rep.keep k3 r2
    obtain ⟨bk, rfl, kb, rk⟩ := key_rep rk2.toB q.1
    have stay : Stay c.b (fun a => N a ∨ a = p) H3 (upd H3 p (DctO X.w p [(kd.nk, bk, v)])) := fun a ob ea _ q => by
      refine (upd_ne (fun z => ?_)).trans ea
      subst z
      exact q.elim (fun ⟨xs, w⟩ => nrd_ext h3 xs w) fun w => w (.inr rfl)
    refine ⟨bk, _, rfl, ok.hK ▸ ⟨h3, fun e he => by cases he⟩, ok.hK ▸ kb, ?_⟩
    have kp : Keep c.b H (upd H3 p (DctO X.w p [(kd.nk, bk, v)])) := fun a o e ga => by
      rw [upd_ne (ne_of_none e hp)]
      exact k3 a o (k2 a o (sm a o e) ga) ga
    have th : ∀ a, H3 a ≠ none → upd H3 p (DctO X.w p [(kd.nk, bk, v)]) a ≠ none := fun a z => by
      by_cases w : a = p
      · subst w; rw [upd_same]; exact fun z => by cases z
      · rw [upd_ne w]; exact z
    have gh : c.b.Φ g2 (upd H3 p (DctO X.w p [(kd.nk, bk, v)])) := c.b.stab _ _ _ R3.gh fun a o ga e => (upd_ne (fun z => by subst z; exact fG ga)).trans e
    have rep : ∀ {M : Addr → Prop}, (∀ a, M a → N a ∨ a = p) → (Reps c.b M (upd H3 p (DctO X.w p [(kd.nk, bk, v)])) [kd] [.ref bk] ∧ Reps c.b M (upd H3 p (DctO X.w p [(kd.nk, bk, v)])) [vd] [v]) := fun {M} hM =>
      ⟨reps_cons (Rep.stay stay (fun a z => .inl (hM a z)) rk) reps_nil, reps_cons (Rep.stay stay (fun a z => .inl (hM a z)) r3) reps_nil⟩
    have hko : ∀ d ∈ [kd], d.kOk := fun d hd => by rw [List.mem_singleton.mp hd]; exact q.1
    refine q.2 (.ref p) _ (R.kept kp gh fun a na => th a (R3.nt a (.inl na))) (fun a z => th a (t3 a (t2 a (same_there sm a z)))) kp ⟨⟨p, _, rfl, fG, fN, upd_same, ⟨rfl, hko⟩, (rep fun a z => .inl z).1, (rep fun a z => .inl z).2⟩, fun _ => ⟨p, rfl, hp, p, _, rfl, fG, upd_same, ⟨rfl, hko⟩, (rep fun a z => z).1, (rep fun a z => z).2⟩⟩⟩
end
end TL
set_option Elab.async false
set_option linter.all false
set_option maxRecDepth 100000
set_option maxHeartbeats 4000000
/-! TL25: len(set(text)), the text's signs all unlike. -/
namespace TL
open PySem PySem.Spec PyProof.Rows L2
section
variable {prog : Program} {w : World} {A : Around} {E : Value → Shared → Prop} {s : Shared}
/-- the signs met in the first i places -/
def metS (ks : List Nat) (i : Nat) (z : Str) : Bool := decide (z ∈ (ks.take i).map sgN)
where sgN (k : Nat) : Str := ⟨#[k]⟩
theorem metS_succ {ks : List Nat} {i : Nat} (h : i < ks.length) (z : Str) : metS ks (i + 1) z = (metS ks i z || decide (z = ⟨#[ks[i]]⟩)) := by
  unfold metS
  rw [List.take_succ, List.getElem?_eq_getElem h, List.map_append, Bool.eq_iff_iff]
  simp only [decide_eq_true_eq, Bool.or_eq_true, List.mem_append, Option.toList_some, List.map_cons, List.map_nil, List.mem_singleton]
  exact Iff.rfl
theorem metS_new {ks : List Nat} (hn : ks.Nodup) {i : Nat} (h : i < ks.length) : metS ks i ⟨#[ks[i]]⟩ = false := by
  refine decide_eq_false fun z => ?_
  obtain ⟨k, hk, e⟩ := List.mem_map.mp z
  have ek : k = ks[i] := by injection e with e; simpa using e
  rw [ek] at hk
  obtain ⟨j, hj, e2⟩ := List.mem_iff_getElem.mp hk
  rw [List.length_take] at hj
  rw [List.getElem_take] at e2
  have := (List.getElem_inj (h₀ := by omega) (h₁ := h) hn).mp e2
  omega
theorem set_loop {I : Addr} {St : Nat → Shared → Prop} {R : Result → Shared → Prop} {ks : List Nat} (W : WalksS prog w A.in1 I [I] [I] (fun a b => b = a) ks.length (SignAt (SX.S ks)) St) (S : Addr) (hS : S ≠ I) (hn : ks.Nodup) (hb : ks.length + 1 < scanBound) :
    ∀ (k i : Nat) (s : Shared), ks.length - i = k → i ≤ ks.length → St i s → s.heap.SetOf (PySem.strKind prog w) S (metS ks i) i →
      (∀ s', Moved [S, I] (fun a b => b = a) s s' → s'.heap.SetOf (PySem.strKind prog w) S (metS ks ks.length) ks.length → R (.ok (.ret .none)) s') → codeAny (model prog w) A (.builtin "set.update.loop" ⟨[.ref S, .ref I], []⟩) R s := by
  have keepS : ∀ {h h' : Heap} {T : Str → Bool} {n : Nat}, h.SetOf (PySem.strKind prog w) S T n → (∀ o, h.get? S = some o → h'.get? S = some o) → h'.SetOf (PySem.strKind prog w) S T n := fun ⟨o, es, ep, t, ho, r⟩ f => ⟨o, es, ep, t, f o ho, r⟩
  intro k; induction k with
  | zero =>
    intro i s hk hi st hs hR; obtain rfl : i = ks.length := by omega
    refine codeAny_builtin PyProof.Rows.F.entry_set_update_loop ?_; rw [Around.under_plainId PyProof.Rows.F.plain_set_update_loop _]
    show wpAny _ A.in1 (pyNext (.ref I) >>= _) _ _ s; refine wpAny_bind (W.done s _ _ st fun s' hm => ?_)
    exact wpAny_pure (hR s' (hm.mono fun b hb => List.mem_cons_of_mem _ hb) (keepS hs fun o ho => hm.heap S o (by simpa using hS) ho))
  | succ k ih =>
    intro i s hk hi st hs hR; have hlt : i < ks.length := by omega
    refine codeAny_builtin PyProof.Rows.F.entry_set_update_loop ?_; rw [Around.under_plainId PyProof.Rows.F.plain_set_update_loop _]
    show wpAny _ A.in1 (pyNext (.ref I) >>= _) _ _ s; refine wpAny_bind (W.item i s _ _ hlt st fun v s' ⟨cc, u, hc, hv⟩ st' hm => ?_)
    have ec : cc = ks[i] := by
      have : (SX.S ks).cps[i]? = ks[i]? := by simp [SX.S]
      rw [hc, List.getElem?_eq_getElem hlt] at this
      injection this
    subst ec hv
    have hs' := keepS hs fun o ho => hm.heap S o (by simpa using hS) ho
    show wpAny _ A.in1 (holding [Value.str _ u] (setAdd S (.str ⟨#[ks[i]]⟩ u)) >>= _) _ _ s'
    refine wpAny_bind (wpAny_holding ?_); unfold setAdd
    refine wpAny_holding (wpAny_bind ((PySem.strKind prog w).pyHash (k := ⟨#[ks[i]]⟩) (strKind_is _ _ _ _) ?_))
    refine wpAny_setAddHashed_of (knd := PySem.strKind prog w) (s := { s' with toks := s'.toks + 1 }) (strKind_is _ _ _ _) rfl hs' (by omega) fun h' hsb hs2 => ?_
    have hsi : h'.SetOf (PySem.strKind prog w) S (metS ks (i + 1)) (i + 1) := SetOf_congr hs2 (fun z => (metS_succ hlt z).symm) (by rw [metS_new hn hlt]; rfl)
    refine wpAny_pure ⟨plainId_quiet PyProof.Rows.F.plain_set_update_loop _, ih (i + 1) _ (by omega) hlt (W.frame _ s' _ _ st' (Nat.le_succ _) fun b hb o e => ?_) hsi fun s'' hm2 hs3 => ?_⟩
    · rw [hsb.2 b (fun z => hS (by rw [← z]; simpa using hb))]; exact e
    · refine hR s'' (Moved.trans W.gtrans ((hm.mono fun b hb => List.mem_cons_of_mem _ hb).then_heap (Nat.le_succ _) fun b o hb e => ?_) hm2) hs3
      rw [hsb.2 b (fun z => hb (by rw [z]; exact List.mem_cons_self ..))]; exact e
abbrev setNew (led : Bool) : Obj := { cls := .type "set", dict := none, data := .set #[] 0 (.fresh 0 0 led) }
theorem call_set_txt {ks : List Nat} {t : Tok} {Q : Value → Shared → Prop} (hh : A.handled = none) (hn : ks.Nodup) (hb : ks.length + 1 < scanBound)
    (h : ∀ (h' : Heap) (tk : Nat), h'.SetOf (PySem.strKind prog w) s.heap.objs.size (metS ks ks.length) ks.length → (∀ b o, s.heap.get? b = some o → h'.get? b = some o) → Q (.ref s.heap.objs.size) { s with heap := h', toks := tk }) :
    wpAny (model prog w) A (call (.type "set") [.str (SX.S ks) t]) Q E s := by
  obtain ⟨c, tl, hmro⟩ := PySem.F.called_set.mro; have hmade := PySem.F.called_set.made; have hsub := PySem.F.called_set.sub
  refine wpAny_call (codeAny_of_tree ?_); show wpAny _ _ (callAny (.type "set") _) _ _ _
  refine wpAny_pure ⟨Code.quiet_builtin _ (by decide +kernel), codeAny_builtin PySem.F.entry_type_call ?_⟩; rw [Around.under_plain (weight_type_call_type "set" [.str (SX.S ks) t] []) rfl]
  have h1 := PySem.F.called_set.notType; have h2 := PySem.F.called_set.canCreate; have hct := PySem.F.typeCall_set_1 (.str (SX.S ks) t)
  repeat (any_goals (first | assumption | wp_step))
  refine codeAny_mono (code_set_new_1 (.str (SX.S ks) t) (E := E) (Q₁ := fun obj s₁ => ∃ led : Bool, obj = .ref s.heap.objs.size ∧ s₁ = { s with heap := s.heap.push (setNew led) }) fun led => ⟨led, rfl, rfl⟩) fun r s₁ hr => ?_
  cases r with
  | error e => exact hr
  | ok fl => cases fl with
    | ret obj =>
      obtain ⟨led, rfl, rfl⟩ := hr
      have hS : (s.heap.push (setNew led)).get? s.heap.objs.size = some (setNew led) := Heap.get?_push_size _ rfl
      have hT : Shared.TypeIs { s with heap := s.heap.push (setNew led) } (.ref s.heap.objs.size) "set" := ⟨_, hS, rfl⟩
      have hli := PySem.F.called_set.init.lookup; have hbi := PySem.F.called_set.init.bind (.ref s.heap.objs.size)
      repeat (any_goals (first | assumption | wp_step))
      refine codeAny_mono (codeAny_call_builtin (R := wants (fun r s₂ => r = .none ∧ ∃ h' tk, s₂ = { s with heap := h', toks := tk } ∧ h'.SetOf (PySem.strKind prog w) s.heap.objs.size (metS ks ks.length) ks.length ∧ (∀ b o, s.heap.get? b = some o → h'.get? b = some o)) E) PySem.F.called_set.init.plain PySem.F.entry_set_init (check_set_init_1 hT ?_)) fun r₂ s₂ hr₂ => ?_
      · have hsls := PySem.F.sub_str_set; have hslf := PySem.F.sub_str_frozenset; have hne : (Value.type "str" == Value.type "dict") = false := by decide
        unfold Builtin.«set.__init__» noKeywords Builtin.Frozenset.updateFrom; generalize hPI : pyIter = PI
        wp_walk
        subst hPI
        refine wpAny_pyIter_str fun o St W st0 => wpAny_bind (wpAny_runValue ?_)
        have hh3 : A.in1.in1.in1.handled = none := by simp [hh]
        have hz : (s.heap.push (setNew led)).objs.size = s.heap.objs.size + 1 := Heap.size_push ..
        have hSI : s.heap.objs.size ≠ (s.heap.push (setNew led)).objs.size := by rw [hz]; exact Nat.ne_of_lt (Nat.lt_succ_self _)
        refine set_loop (ks := ks) (W _ hh3).toS s.heap.objs.size hSI hn hb (ks.length - 0) 0 _ (by omega) (Nat.zero_le _) st0 ?_ ?_
        · exact SetOf_congr ((setObjOf_fresh (knd := PySem.strKind prog w) led).setOf (Heap.get?_push_of_some _ hS) (by decide)) (fun z => by simp [metS]) rfl
        · intro s' hm hs'; obtain ⟨h', g', d', tk', os'⟩ := s'
          have eg : g' = s.gens := hm.gens
          have ed : d' = s.drawn := hm.drawn
          have eo : os' = s.os := hm.os
          subst eg ed eo
          show wpAny _ _ _ _ _ _; refine wpAny_pure ?_; show wpAny _ _ (ret Value.none) _ _ _
          refine wpAny_pure ⟨rfl, h', tk', rfl, hs', fun b ob e => ?_⟩
          have hbl := Heap.lt_size e
          exact hm.heap b ob (by rw [hz]; simp only [List.mem_cons, List.not_mem_nil, or_false, not_or]; exact ⟨Nat.ne_of_lt hbl, Nat.ne_of_lt (Nat.lt_succ_of_lt hbl)⟩) (Heap.get?_push_of_some _ (Heap.get?_push_of_some _ e))
      · cases r₂ with
        | error e => exact hr₂
        | ok fl₂ => cases fl₂ with
          | ret r =>
            obtain ⟨rfl, h', tk, rfl, hs', hk'⟩ := hr₂
            repeat (any_goals (first | assumption | wp_step))
            exact h _ _ hs' hk'
          | _ => exact hr₂.elim
    | _ => exact hr.elim
end
end TL
set_option Elab.async false
set_option linter.all false
set_option maxRecDepth 100000
set_option maxHeartbeats 4000000
/-! TL26: len(set(text)) as a rule. -/
namespace TL
open PySem PySem.Spec PyProof.Rows L2
def SetT (P : Program) (w : World) (p : Addr) (n : Nat) : HO := .ext fun h => ∃ S, h.SetOf (PySem.strKind P w) p S n
theorem setT_ok {P : Program} {w : World} {H : Hp} {h : Heap} {p : Addr} {n : Nat} (r : ∃ S, h.SetOf (PySem.strKind P w) p S n) : ObjOk P w H h p (SetT P w p n) := by
  have r0 := r
  obtain ⟨S, o, es, ep, t, ho, rest⟩ := r
  exact ⟨r0, ⟨o, ho⟩, fun h1 h2 ⟨S, o, es, ep, t, ho, rest⟩ k => ⟨S, o, es, ep, t, k o ho, rest⟩⟩
def rSetT (P : Program) (w : World) : List V → Hp → VK → Prop := fun xs H Q => ∃ ks : List Nat, xs = [.str (SX.S ks)] ∧ (ks.Nodup ∧ ks.length ≤ 1000) ∧ ∀ p, H p = none → Q (.ref p) (upd H p (SetT P w p ks.length))
def rLenT (P : Program) (w : World) : List V → Hp → VK → Prop := fun xs H Q => ∃ p n, xs = [.ref p] ∧ H p = some (SetT P w p n) ∧ n ≤ 1000 ∧ Q (.int n) H
section
variable {X : Cx}
theorem cr_setT (hc : X.calm = true) : CallR X (.type "set") (rSetT X.prog X.w) := by
  intro pins s σ H xs us Q I r h
  obtain ⟨ks, rfl, ⟨hn, hl⟩, q⟩ := h
  obtain ⟨u, rfl, rx⟩ := vals1 r
  obtain ⟨t, rfl⟩ := (show ∃ t, u = Value.str (SX.S ks) t from rx)
  refine call_set_txt (I.ok.hd hc) hn (by unfold scanBound; omega) fun h' tk hs kp => ?_
  exact ⟨.ref s.heap.objs.size, _, I.laid (t' := tk) kp (Nat.le_refl _) (setT_ok ⟨_, hs⟩), rfl, q _ (I.hok.fresh (Nat.le_refl _))⟩
theorem cr_lenT : CallR X (.builtin "len") (rLenT X.prog X.w) := by
  intro pins s σ H xs us Q I r h
  obtain ⟨p, n, rfl, hp, hn, q⟩ := h
  obtain ⟨u, rfl, rx⟩ := vals1 r
  obtain rfl : u = Value.ref p := rx
  obtain ⟨S, o, es, ep, t, ho, hex, hd, _, _, _, hf, hsz⟩ := (I.hok p _ hp).1
  refine call_len_set ho hex hd hf (by omega) ⟨.int n, H, (I.tok _).tok _, ⟨s.toks + 1, ?_⟩, q⟩
  rw [hsz]
variable {c : C} {s : S} {e : Expr} {t : TTE c.b.G} {pos pos2 p p2 : Pos}
@[simp] def tLenSetT {G : Type} (t : TTE G) : TTE G := fun ρ g ex Q => t ρ g ex fun d g' => ∃ ks : List Nat, d = .str (SX.S ks) ∧ (ks.Nodup ∧ ks.length ≤ 1000) ∧ Q (.int ks.length) g'
/-- len(set(text)) -/
theorem et_lenSet (he : PEt c s X e t) (hm : X.mg "len" = none) (hms : X.mg "set" = none) (hc : X.calm = true := by rfl) (hg : Gl X "len" := by rfl) (hgs : Gl X "set" := by rfl) (hv : bootBuiltins "set" = some (.type "set") := by decide +kernel)
    (hs : starEach (e :: []) X.env = (false, eval e X.env) :: starEach [] X.env := by rfl) (hpl : (backTo pos2 (starEach [] X.env)).any (·.1) = false := by rfl)
    (hs1 : starEach (.Call (.Name "set" p2) [e] [] pos2 :: []) X.env = (false, eval (.Call (.Name "set" p2) [e] [] pos2) X.env) :: starEach [] X.env := by rfl) (hpl1 : (backTo pos (starEach [] X.env)).any (·.1) = false := by rfl) :
    PEt c .f X (.Call (.Name "len" p) [.Call (.Name "set" p2) [e] [] pos2] [] pos) (tLenSetT t) :=
  ⟨fun ρ g ex Q Q' w q => he.mono _ _ _ _ _ (fun d g' ⟨ks, e, h, q⟩ => ⟨ks, e, h, w _ _ q⟩) q,
   fun ex ok => PE.weak (pe_callB cr_lenT hg hm boot_len (pa_cons (pe_callTy (cr_setT hc) hgs hms hv (pa_cons (he.run ex ok) pa_nil hs) (by decide) (by decide) hs hpl) pa_nil hs1) (by decide) (by decide) hs1 hpl1) fun σ H Q ⟨N, ρ, g, R, q⟩ => ⟨N, ρ, g, R, he.mono _ _ _ _ _ (fun d g' ⟨ks, e, h, q⟩ v H1 R1 t1 k1 r1 => by
     subst e
     have r1' : v = .str (SX.S ks) := r1.tob
     subst r1'
     refine ⟨ks, rfl, h, fun l hl => ?_⟩
     have sm : Same H1 (upd H1 l (SetT X.prog X.w l ks.length)) := fun a u e => by rw [upd_ne (ne_of_none e hl)]; exact e
     exact ⟨l, ks.length, rfl, upd_same, h.2, q _ _ (R1.same sm) (fun a z => same_there sm a (t1 a z)) (k1.trans (.same sm)) ⟨rfl, fun z => by cases z⟩⟩) q⟩⟩
end
end TL
set_option Elab.async false
set_option linter.all false
set_option maxRecDepth 100000
set_option maxHeartbeats 4000000
/-! TL27: a list that is only read (the law's script). -/
namespace TL
open PySem PySem.Spec PyProof.Rows L2
/-- the ground knows lists that are only read -/
structure GRO (b : B) where
  ro : Addr → List V → Prop
  get : ∀ g H a xs, b.Φ g H → ro a xs → SqL b.K H a xs
section
variable {c : C} {X : Cx} {s : S} {e : Expr} {t : TTE c.b.G} {pos p : Pos} {zs : List Nat}
@[simp] def tRlenT {b : B} (J : GRO b) (t : TTE b.G) : TTE b.G := fun ρ g ex Q => t ρ g ex fun d g2 => ∃ l xs, d = .hnd l ∧ J.ro l xs ∧ Q (.int (xs.length : Nat)) g2
theorem et_rlen {J : GRO c.b} (he : PEt c s X e t) (hm : X.mg "len" = none) (hg : Gl X "len" := by rfl) (hs : starEach (e :: []) X.env = (false, eval e X.env) :: starEach [] X.env := by rfl) (hpl : (backTo pos (starEach [] X.env)).any (·.1) = false := by rfl) : PEt c .f X (.Call (.Name "len" p) [e] [] pos) (tRlenT J t) :=
  ⟨fun ρ g ex Q Q' w q => he.mono _ _ _ _ _ (fun d g' ⟨l, xs, e, h, q⟩ => ⟨l, xs, e, h, w _ _ q⟩) q,
   fun ex ok => PE.weak (pe_callB call_len hg hm boot_len (pa_cons (he.run ex ok) pa_nil hs) (by decide) (by decide) hs hpl) fun σ H Q ⟨N, ρ, g, R, q⟩ => ⟨N, ρ, g, R, he.mono _ _ _ _ _ (fun d g' ⟨l, xs, e, h, q⟩ v H1 R1 t1 k1 r1 => by
     subst e
     have r1' : v = .ref l := r1.tob
     subst r1'
     exact ⟨_, _, rfl, .inl ⟨_, ok.hK ▸ J.get g' H1 l xs R1.gh h, rfl⟩, q _ H1 R1 t1 k1 ⟨rfl, fun z => by cases z⟩⟩) q⟩⟩
theorem walkOk_ro {J : GRO c.b} {l : Addr} {xs : List V} (h : J.ro l xs) (hv : xs.all vOk = true) (hK : X.K = c.b.K) : WalkOk c (xs.map vD) (Itl X.K l) := by
  have hl : (xs.map vD).length = xs.length := List.length_map ..
  refine ⟨fun H => SqL X.K H l xs, fun i H x H2 => H2 = H ∧ ∀ vs, SqL X.K H l vs → vs[i]? = some x, ⟨fun i H hi sq => ⟨xs, xs[i]'(by rw [← hl]; exact hi), sq, by simp⟩, fun H sq => ⟨xs, sq, by omega⟩, fun i H x H' hi sq y => y⟩, fun N ρ g σ H R => hK ▸ J.get g H l xs R.gh h, fun i H x H2 N ρ g σ d hd R y => ?_⟩
  obtain ⟨e, y⟩ := y
  subst e
  have := y xs (hK ▸ J.get g H2 l xs R.gh h)
  rw [List.getElem?_map, this] at hd
  injection hd with hd
  subst hd
  exact ⟨fun _ _ e => e, vD_rep (List.all_eq_true.mp hv x (List.mem_of_getElem? this))⟩
@[simp] def tItJ {b : B} (J : GRO b) (t : TTE b.G) : TTI b.G := fun ρ g ex Q => t ρ g ex fun d g' => ∃ l xs, d = .hnd l ∧ (J.ro l xs ∧ xs.all vOk = true) ∧ Q (xs.map vD) g'
theorem it_ro {J : GRO c.b} {tg : Expr} (he : PSrc c X zs e t) : PIt c X zs tg e (tItJ J t) :=
  ⟨fun ρ g ex Q Q' w q => he.mono _ _ _ _ _ (fun d g' ⟨l, xs, e, h, q⟩ => ⟨l, xs, e, h, w _ _ q⟩) q,
   fun ex ok => PI.weak (pi_any (he.run ex ok)) fun σ H R ⟨N, ρ, g, R0, q⟩ => ⟨N, ρ, g, R0, he.mono _ _ _ _ _ (fun d g' ⟨l, xs, e, h, q⟩ v H' Z pf hz R' th k hd => by
    subst e
    have ev : v = .ref l := hd.rep R'
    subst ev
    exact .inl ⟨l, xs, rfl, ok.hK ▸ J.get g' H' l xs R'.gh h.1, q H' _ Z pf hz R' th k (walkOk_ro h.1 h.2 ok.hK)⟩) q⟩⟩
end
end TL
set_option Elab.async false
set_option linter.all false
set_option maxRecDepth 100000
namespace TL
open PySem PySem.Spec PyProof.Rows L2
/-- reading of BadSize_init -/
def t_BadSize_init {b : B} : TTS b.G :=
  (tSetFT 0 ["BadSize"] "size" (tChk (tVarT 1)))
/-- reading of BadScore_init -/
def t_BadScore_init {b : B} : TTS b.G :=
  (tSetFT 0 ["BadScore"] "place" (tChk (tVarT 1)))
/-- reading of Unlike_init -/
def t_Unlike_init {b : B} : TTS b.G :=
  (tSetFT 0 ["Unlike"] "field" (tChk (tVarT 1)))
/-- reading of BadChanger_init -/
def t_BadChanger_init {b : B} : TTS b.G :=
  (tSeqT (tSetFT 0 ["BadChanger"] "state" (tChk (tVarT 1))) (tSetFT 0 ["BadChanger"] "entry" (tChk (tVarT 2))))
/-- reading of BadLetter_init -/
def t_BadLetter_init {b : B} : TTS b.G :=
  (tSetFT 0 ["BadLetter"] "letter" (tChk (tVarT 1)))
/-- reading of BadBells_init -/
def t_BadBells_init {b : B} : TTS b.G :=
  (tSetFT 0 ["BadBells"] "text" (tChk (tVarT 1)))
/-- reading of BadCarillon_init -/
def t_BadCarillon_init {b : B} : TTS b.G :=
  (tSetFT 0 ["BadCarillon"] "field" (tChk (tVarT 1)))
/-- reading of check_bells -/
def t_check_bells {b : B} : TTS b.G :=
  (tIfT (tTst (tOpT oNe (tVarT 0) (tJoinT (tCon (.str "")) (tLcT (tItT (tCon (.str "abcdef"))) (gNameT 1) (tTst (tOpT oIn (tVarT 1) (tVarT 0))) (tChk (tVarT 1)) [1])))) (tRaiseT "BadBells" "text" (tConsT (tChk (tVarT 0)) tNilT)) tNextT)
/-- reading of heard_slots -/
def t_heard_slots {b : B} (SP_check_bells : TSp) : TTS b.G :=
  (tSeqT (tDropT (tCallT SP_check_bells [] (tConsT (tVarT 1) tNilT))) (tRetT (tCallO oTuple (tConsT (tLcT (tItT (tVarT 0)) (gNameT 2) tYesT (tJoinT (tCon (.str "")) (tLcT (tItT (tVarT 1)) (gNameT 3) (tTst (tOpT oIn (tVarT 3) (tVarT 2))) (tChk (tVarT 3)) [3])) [2]) tNilT))))
/-- reading of heard_list -/
def t_heard_list {b : B} (SP_heard_slots : TSp) : TTS b.G :=
  (tSeqT (tSetT 3 (tCallT SP_heard_slots [] (tConsT (tVarT 0) (tConsT (tVarT 1) tNilT)))) (tSeqT (tSetT 4 (tCallO oLen (tConsT (tVarT 3) tNilT))) (tSeqT (tSetT 5 (tLstT tNilT)) (tSeqT (tForT (tItR1 (tVarT 2)) (gNameT 6) (tForT (tItE (tVarT 3)) (gTupT 2 (gConsT (gNameT 7) (gConsT (gNameT 8) gNilT))) (tIfT (tTst (tOpT oNe (tVarT 8) (tCon (.str "")))) (tAppT 5 (tTupT (tConsT (tOpT oAdd (tOpT oMul (tVarT 6) (tVarT 4)) (tVarT 7)) (tConsT (tChk (tVarT 8)) tNilT)))) tNextT))) (tRetT (tCallO oTuple (tConsT (tVarT 5) tNilT)))))))
/-- reading of is_good_slot -/
def t_is_good_slot {b : B} : TTS b.G :=
  (tSeqT (tForT (tItE (tVarT 0)) (gTupT 2 (gConsT (gNameT 1) (gConsT (gNameT 2) gNilT))) (tSeqT (tIfT (tNotInG ["!a", "!b", "!c", "!d", "!e", "!f", "a", "b", "c", "d", "e", "f"] (tVarT 2)) (tRetT (tCon (.bl false))) tNextT) (tIfT (tAndT (tTst (tOpT oGt (tVarT 1) (tCon (.int 0)))) (tNotT (tTst (tOpT oLt (tOpT oIx (tVarT 0) (tOpT oSub (tVarT 1) (tCon (.int 1)))) (tVarT 2))))) (tRetT (tCon (.bl false))) tNextT))) (tRetT (tCon (.bl true))))
/-- reading of check_score -/
def t_check_score {b : B} (SP_is_good_slot : TSp) : TTS b.G :=
  (tSeqT (tSetT 1 (tCallO oLen (tConsT (tVarT 0) tNilT))) (tSeqT (tIfT (tOrT (tTst (tOpT oLt (tVarT 1) (tCon (.int 1)))) (tTst (tOpT oGt (tVarT 1) (tCon (.int 24))))) tNever tNextT) (tForT (tItE (tVarT 0)) (gTupT 2 (gConsT (gNameT 2) (gConsT (gNameT 3) gNilT))) (tIfT (tNotT (tTst (tCallT SP_is_good_slot [] (tConsT (tVarT 3) tNilT)))) tNever tNextT))))
/-- reading of is_good_score -/
def t_is_good_score {b : B} (SP_check_score : TSp) : TTS b.G :=
  (tSeqT (tThruT (tDropT (tCallT SP_check_score [] (tConsT (tVarT 0) tNilT)))) (tRetT (tCon (.bl true))))
/-- reading of are_good_scores -/
def t_are_good_scores {b : B} (SP_is_good_score : TSp) : TTS b.G :=
  (tSeqT (tIfT (tNotT (tTst (tChainT oLe oLe (tCon (.int 1)) (tCallO oLen (tConsT (tVarT 0) tNilT)) (tCon (.int 4))))) (tRetT (tCon (.bl false))) tNextT) (tSeqT (tIfT (tNotT (tTst (tCallO oAll (tConsT (tLcT (tItT (tVarT 0)) (gNameT 1) tYesT (tCallT SP_is_good_score [] (tConsT (tVarT 1) tNilT)) [1]) tNilT)))) (tRetT (tCon (.bl false))) tNextT) (tRetT (tCallO oAll (tConsT (tLcT (tItT (tVarT 0)) (gNameT 1) tYesT (tOpT oEq (tCallO oLen (tConsT (tVarT 1) tNilT)) (tCallO oLen (tConsT (tOpT oIx (tVarT 0) (tCon (.int 0))) tNilT))) [1]) tNilT)))))
/-- reading of names_missing_tune -/
def t_names_missing_tune {b : B} : TTS b.G :=
  (tSeqT (tForT (tItT (tFldT ["Changer"] "states" (tVarT 0))) (gNameT 2) (tIfT (tTst (tCallO oAny (tConsT (tLcT (tItT (tVarT 2)) (gNameT 3) tYesT (tOpT oGe (tOpT oIx (tVarT 3) (tCon (.int 1))) (tVarT 1)) [3]) tNilT))) (tRetT (tCon (.bl true))) tNextT)) (tRetT (tCon (.bl false))))
/-- reading of Carillon_init -/
def t_Carillon_init {b : B} (SP_are_good_scores SP_names_missing_tune : TSp) : TTS b.G :=
  (tSeqT (tSetT 3 (tCallO oTuple (tConsT (tVarT 2) tNilT))) (tSeqT (tIfT (tNotT (tTst (tCallT SP_are_good_scores [] (tConsT (tVarT 3) tNilT)))) tNever tNextT) (tSeqT (tIfT (tTst (tCallT SP_names_missing_tune [] (tConsT (tVarT 1) (tConsT (tCallO oLen (tConsT (tVarT 3) tNilT)) tNilT)))) tNever tNextT) (tSeqT (tSetFT 0 ["Carillon"] "changer" (tChk (tVarT 1))) (tSeqT (tSetFT 0 ["Carillon"] "scores" (tChk (tVarT 3))) (tSetFT 0 ["Carillon"] "size" (tCallO oLen (tConsT (tOpT oIx (tVarT 3) (tCon (.int 0))) tNilT))))))))
/-- reading of hour_list -/
def t_hour_list {b : B} (SP_heard_list : TSp) : TTS b.G :=
  (tSeqT (tIfT (tTst (tOpT oEq (tVarT 2) (tNegT (tCon (.int 1))))) (tRetT (tTupT tNilT)) tNextT) (tRetT (tCallK1T SP_heard_list (tConsT (tOpT oIx (tFldT ["Carillon"] "scores" (tVarT 0)) (tVarT 2)) (tConsT (tVarT 1) tNilT)) (tVarT 3))))
/-- reading of answer_rows -/
def t_answer_rows {b : B} (SP_hour_list : TSp) : TTS b.G :=
  (tSeqT (tSetT 2 (tLstT tNilT)) (tSeqT (tForT (tItT (tFldT ["Changer"] "states" (tFldT ["Carillon"] "changer" (tVarT 0)))) (gNameT 3) (tSeqT (tSetT 4 (tLcT (tItT (tVarT 3)) (gNameT 5) tYesT (tTupT (tConsT (tCallT SP_hour_list [] (tConsT (tVarT 0) (tConsT (tVarT 1) (tConsT (tOpT oIx (tVarT 5) (tCon (.int 1))) (tConsT (tOpT oIx (tVarT 5) (tCon (.int 2))) tNilT))))) (tConsT (tOpT oIx (tVarT 5) (tCon (.int 0))) tNilT))) [5])) (tAppT 2 (tCallO oTuple (tConsT (tVarT 4) tNilT))))) (tRetT (tCallO oTuple (tConsT (tVarT 2) tNilT)))))
/-- reading of numbered -/
def t_numbered {b : B} (w : World) : TTS b.G :=
  (tSeqT (tSetT 1 (tNNewT w)) (tSeqT (tForT (tItT (tVarT 0)) (gNameT 2) (tNSetdT w 1 (tConsT (tChk (tVarT 2)) (tConsT (tCallO (oLenD w) (tConsT (tVarT 1) tNilT)) tNilT)))) (tRetT (tCallO oTuple (tConsT (tLcT (tItT (tVarT 0)) (gNameT 2) tYesT (tOpT (oIxD w) (tVarT 1) (tVarT 2)) [2]) tNilT)))))
/-- reading of refined -/
def t_refined {b : B} (SP_numbered : TSp) : TTS b.G :=
  (tSeqT (tSetT 2 (tLstT tNilT)) (tSeqT (tForT (tItE (tVarT 0)) (gTupT 2 (gConsT (gNameT 3) (gConsT (gNameT 4) gNilT))) (tAppT 2 (tTupT (tConsT (tOpT oIx (tVarT 1) (tVarT 3)) (tConsT (tCallO oTuple (tConsT (tLcT (tItT (tVarT 4)) (gNameT 5) tYesT (tOpT oIx (tVarT 1) (tOpT oIx (tVarT 5) (tCon (.int 1)))) [5]) tNilT)) tNilT))))) (tRetT (tCallT SP_numbered [] (tConsT (tVarT 2) tNilT)))))
/-- reading of row_partitions -/
def t_row_partitions {b : B} (SP_numbered SP_refined : TSp) : TTS b.G :=
  (tSeqT (tSetT 1 (tLstT (tConsT (tCallT SP_numbered [] (tConsT (tLcT (tItT (tVarT 0)) (gNameT 2) tYesT (tCallO oTuple (tConsT (tLcT (tItT (tVarT 2)) (gNameT 3) tYesT (tOpT oIx (tVarT 3) (tCon (.int 0))) [3]) tNilT)) [2]) tNilT)) tNilT))) (tSeqT (tSetT 4 (tCallT SP_refined [] (tConsT (tVarT 0) (tConsT (tOpT oIx (tVarT 1) (tNegT (tCon (.int 1)))) tNilT)))) (tSeqT (tWhileT (tTst (tOpT oNe (tVarT 4) (tOpT oIx (tVarT 1) (tNegT (tCon (.int 1)))))) (tSeqT (tAppT 1 (tChk (tVarT 4))) (tSetT 4 (tCallT SP_refined [] (tConsT (tVarT 0) (tConsT (tVarT 4) tNilT)))))) (tRetT (tCallO oTuple (tConsT (tVarT 1) tNilT))))))
/-- reading of first_difference -/
def t_first_difference {b : B} : TTS b.G :=
  (tSeqT (tSetT 2 (tCon (.int 0))) (tSeqT (tWhileT (tTst (tOpT oEq (tOpT oIx (tVarT 0) (tVarT 2)) (tOpT oIx (tVarT 1) (tVarT 2)))) (tAugT 2 oAddI (tCon (.int 1)))) (tRetT (tChk (tVarT 2)))))
/-- reading of row_word -/
def t_row_word {b : B} (SP_first_difference : TSp) : TTS b.G :=
  (tSeqT (tIfT (tTst (tOpT oEq (tOpT oIx (tOpT oIx (tVarT 1) (tNegT (tCon (.int 1)))) (tVarT 3)) (tOpT oIx (tOpT oIx (tVarT 1) (tNegT (tCon (.int 1)))) (tVarT 4)))) (tRetT (tCon .non)) tNextT) (tSeqT (tSetT 5 (tCon (.int 0))) (tSeqT (tWhileT (tTst (tOpT oEq (tOpT oIx (tOpT oIx (tVarT 1) (tVarT 5)) (tVarT 3)) (tOpT oIx (tOpT oIx (tVarT 1) (tVarT 5)) (tVarT 4)))) (tAugT 5 oAddI (tCon (.int 1)))) (tSeqT (tSetT 6 (tCon (.str ""))) (tSeqT (tWhileT (tTst (tOpT oGt (tVarT 5) (tCon (.int 0)))) (tSeqT (tAugT 5 oSub (tCon (.int 1))) (tSeqT (tSetT 7 (tOpT oIx (tVarT 1) (tVarT 5))) (tSeqT (tSetT 8 (tCallT SP_first_difference [] (tConsT (tLcT (tItT (tOpT oIx (tVarT 0) (tVarT 3))) (gNameT 9) tYesT (tOpT oIx (tVarT 7) (tOpT oIx (tVarT 9) (tCon (.int 1)))) [9]) (tConsT (tLcT (tItT (tOpT oIx (tVarT 0) (tVarT 4))) (gNameT 9) tYesT (tOpT oIx (tVarT 7) (tOpT oIx (tVarT 9) (tCon (.int 1)))) [9]) tNilT)))) (tSeqT (tAugT 6 oAddI (tOpT oIx (tVarT 2) (tVarT 8))) (tParT 3 4 (tConsT (tOpT oIx (tOpT oIx (tOpT oIx (tVarT 0) (tVarT 3)) (tVarT 8)) (tCon (.int 1))) (tConsT (tOpT oIx (tOpT oIx (tOpT oIx (tVarT 0) (tVarT 4)) (tVarT 8)) (tCon (.int 1))) tNilT)))))))) (tSeqT (tSetT 8 (tCallT SP_first_difference [] (tConsT (tLcT (tItT (tOpT oIx (tVarT 0) (tVarT 3))) (gNameT 9) tYesT (tOpT oIx (tVarT 9) (tCon (.int 0))) [9]) (tConsT (tLcT (tItT (tOpT oIx (tVarT 0) (tVarT 4))) (gNameT 9) tYesT (tOpT oIx (tVarT 9) (tCon (.int 0))) [9]) tNilT)))) (tRetT (tOpT oAdd (tVarT 6) (tOpT oIx (tVarT 2) (tVarT 8))))))))))
/-- reading of check_pair -/
def t_check_pair {b : B} (SP_check_bells : TSp) : TTS b.G :=
  (tSeqT (tDropT (tCallT SP_check_bells [] (tConsT (tVarT 2) tNilT))) (tSeqT (tIfT (tTst (tOpT oNe (tFldT ["Changer"] "letters" (tFldT ["Carillon"] "changer" (tVarT 0))) (tFldT ["Changer"] "letters" (tFldT ["Carillon"] "changer" (tVarT 1))))) (tRaiseT "Unlike" "field" (tConsT (tCon (.str "letters")) tNilT)) tNextT) (tIfT (tTst (tOpT oNe (tFldT ["Carillon"] "size" (tVarT 0)) (tFldT ["Carillon"] "size" (tVarT 1)))) (tRaiseT "Unlike" "field" (tConsT (tCon (.str "size")) tNilT)) tNextT)))
/-- reading of joint_rows -/
def t_joint_rows {b : B} (SP_Changer_len SP_answer_rows : TSp) : TTS b.G :=
  (tSeqT (tSetT 3 (tLenT "Changer" SP_Changer_len (tFldT ["Carillon"] "changer" (tVarT 0)))) (tSeqT (tSetT 4 (tCallO oList (tConsT (tCallT SP_answer_rows [] (tConsT (tVarT 0) (tConsT (tVarT 2) tNilT))) tNilT))) (tSeqT (tForT (tItT (tCallT SP_answer_rows [] (tConsT (tVarT 1) (tConsT (tVarT 2) tNilT)))) (gNameT 5) (tAppT 4 (tCallO oTuple (tConsT (tLcT (tItT (tVarT 5)) (gNameT 6) tYesT (tTupT (tConsT (tOpT oIx (tVarT 6) (tCon (.int 0))) (tConsT (tOpT oAdd (tOpT oIx (tVarT 6) (tCon (.int 1))) (tVarT 3)) tNilT))) [6]) tNilT)))) (tRetT (tCallO oTuple (tConsT (tVarT 4) tNilT))))))
/-- reading of alike -/
def t_alike {b : B} (SP_check_pair SP_joint_rows SP_row_partitions SP_Changer_len SP_row_word : TSp) : TTS b.G :=
  (tSeqT (tDropT (tCallT SP_check_pair [] (tConsT (tVarT 0) (tConsT (tVarT 1) (tConsT (tVarT 2) tNilT))))) (tSeqT (tSetT 3 (tCallT SP_joint_rows [] (tConsT (tVarT 0) (tConsT (tVarT 1) (tConsT (tVarT 2) tNilT))))) (tSeqT (tSetT 4 (tCallT SP_row_partitions [] (tConsT (tVarT 3) tNilT))) (tSeqT (tSetT 5 (tCallT SP_row_word [] (tConsT (tVarT 3) (tConsT (tVarT 4) (tConsT (tFldT ["Changer"] "letters" (tFldT ["Carillon"] "changer" (tVarT 0))) (tConsT (tCon (.int 0)) (tConsT (tLenT "Changer" SP_Changer_len (tFldT ["Carillon"] "changer" (tVarT 0))) tNilT))))))) (tSeqT (tIfT (tTst (tOpT oIs (tVarT 5) (tCon .non))) (tRetT (tTupT (tConsT (tCon (.str "alike")) (tConsT (tOpT oIx (tVarT 4) (tNegT (tCon (.int 1)))) tNilT)))) tNextT) (tRetT (tTupT (tConsT (tCon (.str "apart")) (tConsT (tChk (tVarT 5)) tNilT)))))))))
/-- reading of alike_bells -/
def t_alike_bells {b : B} (SP_check_pair SP_alike : TSp) : TTS b.G :=
  (tSeqT (tDropT (tCallT SP_check_pair [] (tConsT (tVarT 0) (tConsT (tVarT 1) (tConsT (tVarT 2) tNilT))))) (tRetT (tJoinT (tCon (.str "")) (tLcT (tItT (tVarT 2)) (gNameT 3) (tTst (tOpT oEq (tOpT oIx (tCallT SP_alike [] (tConsT (tVarT 0) (tConsT (tVarT 1) (tConsT (tVarT 3) tNilT)))) (tCon (.int 0))) (tCon (.str "alike")))) (tChk (tVarT 3)) [3]))))
/-- reading of are_letters -/
def t_are_letters {b : B} : TTS b.G :=
  (tRetT (tCallO oAll (tConsT (tLcT (tItT (tVarT 0)) (gNameT 1) tYesT (tChainT oLe oLe (tCon (.str "a")) (tVarT 1) (tCon (.str "z"))) [1]) tNilT)))
/-- reading of is_entry -/
def t_is_entry {b : B} : TTS b.G :=
  (tSeqT (tAsgT (tChk (tVarT 0)) (gTupT 3 (gConsT (gNameT 2) (gConsT (gNameT 3) (gConsT (gNameT 4) gNilT))))) (tSeqT (tIfT (tNotT (tTst (tChainT oLe oLt (tCon (.int 0)) (tVarT 2) (tVarT 1)))) (tRetT (tCon (.bl false))) tNextT) (tSeqT (tIfT (tTst (tOpT oEq (tVarT 3) (tNegT (tCon (.int 1))))) (tRetT (tOpT oEq (tVarT 4) (tCon (.int 0)))) tNextT) (tRetT (tAndE (tChainT oLe oLe (tCon (.int 0)) (tVarT 3) (tCon (.int 3))) (tChainT oLe oLe (tCon (.int 1)) (tVarT 4) (tCon (.int 3))))))))
/-- reading of check_changer -/
def t_check_changer {b : B} (SP_are_letters SP_is_entry : TSp) : TTS b.G :=
  (tSeqT (tIfT (tOrT (tNotT (tTst (tChainT oLe oLe (tCon (.int 1)) (tCallO oLen (tConsT (tVarT 0) tNilT)) (tCon (.int 3))))) (tNotT (tTst (tChainT oLe oLe (tCon (.int 1)) (tCallO oLen (tConsT (tVarT 1) tNilT)) (tCon (.int 6)))))) tNever tNextT) (tSeqT (tIfT (tOrT (tNotT (tTst (tCallT SP_are_letters [] (tConsT (tVarT 0) tNilT)))) (tTst (tOpT oNe (tLenSetT (tVarT 0)) (tCallO oLen (tConsT (tVarT 0) tNilT))))) tNever tNextT) (tForT (tItE (tVarT 1)) (gTupT 2 (gConsT (gNameT 2) (gConsT (gNameT 3) gNilT))) (tSeqT (tIfT (tTst (tOpT oNe (tCallO oLen (tConsT (tVarT 3) tNilT)) (tCallO oLen (tConsT (tVarT 0) tNilT)))) tNever tNextT) (tForT (tItE (tVarT 3)) (gTupT 2 (gConsT (gNameT 4) (gConsT (gNameT 5) gNilT))) (tIfT (tNotT (tTst (tCallT SP_is_entry [] (tConsT (tVarT 5) (tConsT (tCallO oLen (tConsT (tVarT 1) tNilT)) tNilT))))) tNever tNextT))))))
/-- reading of Changer_init -/
def t_Changer_init {b : B} (SP_check_changer : TSp) : TTS b.G :=
  (tSeqT (tDropT (tCallT SP_check_changer [] (tConsT (tVarT 1) (tConsT (tVarT 2) tNilT)))) (tSeqT (tSetFT 0 ["Changer"] "letters" (tChk (tVarT 1))) (tSetFT 0 ["Changer"] "states" (tCallO oTuple (tConsT (tVarT 2) tNilT)))))
/-- reading of Changer_len -/
def t_Changer_len {b : B} : TTS b.G :=
  (tRetT (tCallO oLen (tConsT (tFldT ["Changer"] "states" (tVarT 0)) tNilT)))
/-- reading of Changer_has_letter -/
def t_Changer_has_letter {b : B} : TTS b.G :=
  (tRetT (tAndE (tOpT oEq (tCallO oLen (tConsT (tVarT 1) tNilT)) (tCon (.int 1))) (tOpT oIn (tVarT 1) (tFldT ["Changer"] "letters" (tVarT 0)))))
/-- reading of _law_mix -/
def t__law_mix {b : B} : TTS b.G :=
  (tSeqT (tSetT 2 (tOpT oMod (tCallO oInt (tConsT (tOpT oAdd (tOpT oAdd (tOpT oMul (tVarT 0) (tCon (.int 48271))) (tOpT oMul (tVarT 1) (tCon (.int 69621)))) (tCon (.int 977))) tNilT)) (tCon (.int 2147483647)))) (tSeqT (tSetT 3 (tOpT oMod (tCallO oInt (tConsT (tOpT oAdd (tOpT oAdd (tOpT oAdd (tOpT oMul (tVarT 2) (tVarT 2)) (tOpT oMul (tCon (.int 40692)) (tVarT 2))) (tOpT oMul (tVarT 1) (tCon (.int 7919)))) (tCon (.int 1))) tNilT)) (tCon (.int 2147483629)))) (tRetT (tOpT oMod (tCallO oInt (tConsT (tOpT oAdd (tOpT oAdd (tOpT oDiv (tOpT oMul (tVarT 3) (tVarT 3)) (tCon (.int 1009))) (tOpT oMul (tVarT 2) (tCon (.int 16807)))) (tVarT 1)) tNilT)) (tCon (.int 2147483587))))))
/-- reading of _law_mixed -/
def t__law_mixed {b : B} (SP__law_mix : TSp) : TTS b.G :=
  (tSeqT (tSetT 3 (tCallT SP__law_mix [] (tConsT (tVarT 0) (tConsT (tVarT 1) tNilT)))) (tSeqT (tSetT 4 (tCon (.int 2147483587))) (tSeqT (tForT (tItR1 (tCon (.int 8))) (gNameT 5) (tSeqT (tIfT (tTst (tOpT oGe (tVarT 4) (tOpT oMul (tVarT 2) (tCon (.int 1000))))) tBreakT tNextT) (tSeqT (tSetT 3 (tOpT oAdd (tOpT oMul (tVarT 3) (tCon (.int 2147483587))) (tCallT SP__law_mix [] (tConsT (tOpT oAdd (tOpT oAdd (tVarT 0) (tOpT oMul (tCon (.int 7)) (tVarT 5))) (tCon (.int 1))) (tConsT (tOpT oAdd (tOpT oAdd (tOpT oMul (tVarT 1) (tCon (.int 31))) (tVarT 5)) (tCon (.int 1))) tNilT))))) (tSetT 4 (tOpT oMul (tVarT 4) (tCon (.int 2147483587))))))) (tRetT (tOpT oMod (tCallO oInt (tConsT (tVarT 3) tNilT)) (tVarT 2))))))
/-- reading of _law_store -/
def t__law_store {b : B} (J : GRO b) (SP__law_mix : TSp) : TTS b.G :=
  (tSeqT (tSetT 1 (tOpT oPow (tOpT oPow (tCon (.int 10)) (tCon (.int 60))) (tCon (.int 10)))) (tSeqT (tSetT 2 (tLstT tNilT)) (tSeqT (tSetT 3 (tOpT oAdd (tCon (.int 1009)) (tOpT oMul (tCon (.int 31)) (tRlenT J (tVarT 0))))) (tSeqT (tForT (tItJ J (tVarT 0)) (gNameT 4) (tSeqT (tSetT 3 (tCallT SP__law_mix [] (tConsT (tOpT oMod (tCallO oInt (tConsT (tVarT 4) tNilT)) (tCon (.int 2147483647))) (tConsT (tVarT 3) tNilT)))) (tIfT (tTst (tOpT oGe (tVarT 4) (tOpT oPow (tCon (.int 10)) (tCon (.int 18))))) (tAppT 2 (tLstT (tConsT (tOpT oMod (tCallO oInt (tConsT (tVarT 4) tNilT)) (tVarT 1)) (tConsT (tNegT (tCon (.int 1))) tNilT)))) (tIfT (tTst (tOpT oLe (tVarT 4) (tNegT (tOpT oPow (tCon (.int 10)) (tCon (.int 18)))))) (tAppT 2 (tLstT (tConsT (tOpT oMod (tCallO oInt (tConsT (tOpT oSub (tNegT (tCon (.int 1))) (tVarT 4)) tNilT)) (tVarT 1)) (tConsT (tNegT (tCon (.int 1))) tNilT)))) (tAppT 2 (tLstT (tConsT (tChk (tVarT 4)) (tConsT (tCon (.int 4)) tNilT)))))))) (tRetGiveT 2 (tConsT (tCon (.int 0)) (tConsT (tCon (.int 0)) (tConsT (tChk (tVarT 3)) tNilT))))))))
/-- reading of _law_take -/
def t__law_take {b : B} (I : GLI b) (SP__law_mixed : TSp) : TTS b.G :=
  (tSeqT (tIfT (tTst (tOpT oLt (tVarT 1) (tCon (.int 2)))) (tRetT (tCon (.int 0))) tNextT) (tSeqT (tGsetT I 0 (tCon (.int 2)) (tOpT oAdd (tGixT I (tVarT 0) (tCon (.int 2))) (tCon (.int 1)))) (tSeqT (tSetT 2 (tGixT I (tVarT 0) (tCon (.int 0)))) (tSeqT (tSetT 3 (tGixT I (tVarT 0) (tCon (.int 1)))) (tSeqT (tForT (tItR2 (tVarT 3) (tGlenT I (tVarT 2))) (gNameT 4) (tSeqT (tSetT 5 (tGixT I (tVarT 2) (tVarT 4))) (tSeqT (tIfT (tAndT (tTst (tOpT oLt (tGixT I (tVarT 5) (tCon (.int 1))) (tCon (.int 0)))) (tTst (tOpT oGt (tGixT I (tVarT 5) (tCon (.int 0))) (tCon (.int 0))))) (tSeqT (tSetT 6 (tOpT oMod (tCallO oInt (tConsT (tGixT I (tVarT 5) (tCon (.int 0))) tNilT)) (tVarT 1))) (tSeqT (tGsetT I 5 (tCon (.int 0)) (tOpT oDiv (tGixT I (tVarT 5) (tCon (.int 0))) (tVarT 1))) (tRetT (tChk (tVarT 6))))) tNextT) (tSeqT (tIfT (tTst (tOpT oGt (tGixT I (tVarT 5) (tCon (.int 1))) (tCon (.int 0)))) (tSeqT (tGsetT I 5 (tCon (.int 1)) (tOpT oSub (tGixT I (tVarT 5) (tCon (.int 1))) (tCon (.int 1)))) (tRetT (tCallT SP__law_mixed [] (tConsT (tGixT I (tVarT 5) (tCon (.int 0))) (tConsT (tGixT I (tVarT 0) (tCon (.int 2))) (tConsT (tVarT 1) tNilT)))))) tNextT) (tGsetT I 0 (tCon (.int 1)) (tOpT oAdd (tVarT 4) (tCon (.int 1)))))))) (tRetT (tCallT SP__law_mixed [] (tConsT (tGixT I (tVarT 0) (tCon (.int 3))) (tConsT (tGixT I (tVarT 0) (tCon (.int 2))) (tConsT (tVarT 1) tNilT))))))))))
/-- reading of _law_pick -/
def t__law_pick {b : B} (SP__law_take : TSp) : TTS b.G :=
  (tRetT (tChk (tOpT oIx (tVarT 1) (tCallT SP__law_take [] (tConsT (tVarT 0) (tConsT (tCallO oLen (tConsT (tVarT 1) tNilT)) tNilT))))))
/-- reading of _law_near -/
def t__law_near {b : B} (SP__law_take SP__law_pick : TSp) : TTS b.G :=
  (tSeqT (tSetT 3 (tOpT oAdd (tVarT 1) (tCallT SP__law_take [] (tConsT (tVarT 0) (tConsT (tOpT oAdd (tOpT oSub (tVarT 2) (tVarT 1)) (tCon (.int 1))) tNilT))))) (tRetT (tCallT SP__law_pick [] (tConsT (tVarT 0) (tConsT (tLstT (tConsT (tChk (tVarT 1)) (tConsT (tChk (tVarT 2)) (tConsT (tCallO oMin (tConsT (tOpT oAdd (tVarT 1) (tCon (.int 1))) (tConsT (tVarT 2) tNilT))) (tConsT (tCallO oMax (tConsT (tOpT oSub (tVarT 2) (tCon (.int 1))) (tConsT (tVarT 1) tNilT))) (tConsT (tChk (tVarT 3)) (tConsT (tChk (tVarT 3)) (tConsT (tChk (tVarT 3)) (tConsT (tChk (tVarT 3)) tNilT))))))))) tNilT)))))
/-- reading of _law_tones -/
def t__law_tones {b : B} (SP__law_take SP__law_pick : TSp) : TTS b.G :=
  (tSeqT (tSetT 2 (tLstT (tConsT (tCon (.str "!a")) (tConsT (tCon (.str "!b")) (tConsT (tCon (.str "!c")) (tConsT (tCon (.str "!d")) (tConsT (tCon (.str "!e")) (tConsT (tCon (.str "!f")) (tConsT (tCon (.str "a")) (tConsT (tCon (.str "b")) (tConsT (tCon (.str "c")) (tConsT (tCon (.str "d")) (tConsT (tCon (.str "e")) (tConsT (tCon (.str "f")) tNilT)))))))))))))) (tSeqT (tSetT 3 (tLstT tNilT)) (tSeqT (tForT (tItR1 (tVarT 1)) (gNameT 4) (tSeqT (tSetT 5 (tOpT oAnd (tCallT SP__law_take [] (tConsT (tVarT 0) (tConsT (tCon (.int 4096)) tNilT))) (tCallT SP__law_take [] (tConsT (tVarT 0) (tConsT (tCon (.int 4096)) tNilT))))) (tAppT 3 (tCallO oTuple (tConsT (tLcT (tItR1 (tCon (.int 12))) (gNameT 6) (tTst (tOpT oEq (tOpT oMod (tCallO oInt (tConsT (tOpT oShr (tVarT 5) (tVarT 6)) tNilT)) (tCon (.int 2))) (tCon (.int 1)))) (tOpT oIx (tVarT 2) (tVarT 6)) [6]) tNilT))))) (tSeqT (tSetT 7 (tCallT SP__law_pick [] (tConsT (tVarT 0) (tConsT (tLcT (tItR2 (tCon (.int 1)) (tOpT oAdd (tVarT 1) (tCon (.int 1)))) (gNameT 6) (tTst (tOpT oEq (tOpT oMod (tCallO oInt (tConsT (tVarT 1) tNilT)) (tVarT 6)) (tCon (.int 0)))) (tChk (tVarT 6)) [6]) tNilT)))) (tRetT (tOpT oMulT (tCallO oTuple (tConsT (tSlT (tVarT 3) tNoT (tAtT (tVarT 7))) tNilT)) (tOpT oDiv (tVarT 1) (tVarT 7))))))))
/-- reading of _law_bent_tone -/
def t__law_bent_tone {b : B} (SP__law_take SP__law_pick : TSp) : TTS b.G :=
  (tSeqT (tSetT 2 (tCallT SP__law_take [] (tConsT (tVarT 0) (tConsT (tCallO oLen (tConsT (tVarT 1) tNilT)) tNilT)))) (tSeqT (tSetT 3 (tCallT SP__law_pick [] (tConsT (tVarT 0) (tConsT (tLstT (tConsT (tCon (.str "a")) (tConsT (tCon (.str "b")) (tConsT (tCon (.str "c")) (tConsT (tCon (.str "f")) (tConsT (tCon (.str "!a")) (tConsT (tCon (.str "!f")) (tConsT (tCon (.str "d")) (tConsT (tCon (.str "e")) tNilT))))))))) tNilT)))) (tSeqT (tSetT 4 (tCallO oTuple (tConsT (tCallO oSortS (tConsT (tOpT oAdd (tLcT (tItT (tOpT oIx (tVarT 1) (tVarT 2))) (gNameT 5) (tTst (tOpT oNe (tVarT 5) (tVarT 3))) (tChk (tVarT 5)) [5]) (tOpT oMul (tLstT (tConsT (tChk (tVarT 3)) tNilT)) (tCallO oInt (tConsT (tOpT oNotIn (tVarT 3) (tOpT oIx (tVarT 1) (tVarT 2))) tNilT)))) tNilT)) tNilT))) (tRetT (tOpT oAdd (tOpT oAdd (tSlT (tVarT 1) tNoT (tAtT (tVarT 2))) (tTupT (tConsT (tChk (tVarT 4)) tNilT))) (tSlT (tVarT 1) (tAtT (tOpT oAdd (tVarT 2) (tCon (.int 1)))) tNoT))))))
/-- reading of _law_letters -/
def t__law_letters {b : B} (SP__law_take : TSp) : TTS b.G :=
  (tSeqT (tSetT 1 (tCallO oListS (tConsT (tCon (.str "abcdefghijklmnopqrstuvwxyz")) tNilT))) (tSeqT (tSetT 2 (tCon (.str ""))) (tSeqT (tForT (tItR1 (tOpT oAdd (tCon (.int 1)) (tCallT SP__law_take [] (tConsT (tVarT 0) (tConsT (tCon (.int 3)) tNilT))))) (gNameT 3) (tAddPopT 2 1 (tCallT SP__law_take [] (tConsT (tVarT 0) (tConsT (tCallO oLen (tConsT (tVarT 1) tNilT)) tNilT))))) (tRetT (tChk (tVarT 2))))))
/-- reading of _law_wheel -/
def t__law_wheel {b : B} (SP__law_letters SP__law_near SP__law_take : TSp) : TTS b.G :=
  (tSeqT (tSetT 2 (tCallT SP__law_letters [] (tConsT (tVarT 0) tNilT))) (tSeqT (tSetT 3 (tCallT SP__law_near [] (tConsT (tVarT 0) (tConsT (tCon (.int 1)) (tConsT (tCon (.int 6)) tNilT))))) (tSeqT (tSetT 4 (tCallT SP__law_take [] (tConsT (tVarT 0) (tConsT (tCon (.int 6)) tNilT)))) (tSeqT (tSetT 5 (tLstT tNilT)) (tSeqT (tForT (tItR1 (tVarT 3)) (gNameT 6) (tSeqT (tSetT 7 (tLstT tNilT)) (tSeqT (tForT (tItR1 (tCallO oLen (tConsT (tVarT 2) tNilT))) (gNameT 8) (tSeqT (tSetT 9 (tTupT (tConsT (tCallT SP__law_take [] (tConsT (tVarT 0) (tConsT (tVarT 3) tNilT))) (tConsT (tCallT SP__law_take [] (tConsT (tVarT 0) (tConsT (tVarT 1) tNilT))) (tConsT (tOpT oAdd (tCon (.int 1)) (tCallT SP__law_take [] (tConsT (tVarT 0) (tConsT (tCon (.int 3)) tNilT)))) tNilT))))) (tSeqT (tIfT (tTst (tOpT oEq (tCallT SP__law_take [] (tConsT (tVarT 0) (tConsT (tCon (.int 5)) tNilT))) (tCon (.int 0)))) (tSetT 9 (tTupT (tConsT (tOpT oIx (tVarT 9) (tCon (.int 0))) (tConsT (tNegT (tCon (.int 1))) (tConsT (tCon (.int 0)) tNilT))))) tNextT) (tSeqT (tIfT (tOrT (tTst (tOpT oEq (tVarT 4) (tCon (.int 0)))) (tAndT (tTst (tOpT oEq (tVarT 4) (tCon (.int 2)))) (tTst (tOpT oLt (tOpT oAdd (tVarT 6) (tCon (.int 1))) (tVarT 3))))) (tSetT 9 (tOpT oAdd (tTupT (tConsT (tOpT oMod (tCallO oInt (tConsT (tOpT oAdd (tVarT 6) (tCon (.int 1))) tNilT)) (tVarT 3)) tNilT)) (tSlT (tVarT 9) (tAtT (tCon (.int 1))) tNoT))) tNextT) (tSeqT (tIfT (tAndT (tTst (tOpT oGt (tVarT 6) (tCon (.int 0)))) (tOrT (tTst (tOpT oEq (tVarT 4) (tCon (.int 1)))) (tAndT (tTst (tOpT oEq (tVarT 4) (tCon (.int 2)))) (tTst (tOpT oLt (tOpT oAdd (tVarT 6) (tCon (.int 1))) (tVarT 3)))))) (tSetT 9 (tOpT oAdd (tTupT (tConsT (tOpT oIx (tVarT 9) (tCon (.int 0))) tNilT)) (tSlT (tOpT oIx (tOpT oIx (tVarT 5) (tCon (.int 0))) (tVarT 8)) (tAtT (tCon (.int 1))) tNoT))) tNextT) (tAppT 7 (tChk (tVarT 9)))))))) (tAppT 5 (tCallO oTuple (tConsT (tVarT 7) tNilT)))))) (tRetT (tTupT (tConsT (tChk (tVarT 2)) (tConsT (tCallO oTuple (tConsT (tVarT 5) tNilT)) tNilT)))))))))
/-- reading of _law_delayed -/
def t__law_delayed {b : B} : TTS b.G :=
  (tSeqT (tSetT 2 (tCallO oLen (tConsT (tVarT 0) tNilT))) (tRetT (tCallO oTuple (tConsT (tLcT (tItR1 (tVarT 2)) (gNameT 3) tYesT (tOpT oIx (tVarT 0) (tOpT oMod (tCallO oInt (tConsT (tOpT oSub (tVarT 3) (tVarT 1)) tNilT)) (tVarT 2))) [3]) tNilT))))
/-- reading of _law_chimes -/
def t__law_chimes {b : B} (SP__law_near SP__law_pick SP__law_wheel SP__law_tones SP__law_take SP__law_delayed SP__law_bent_tone : TSp) : TTS b.G :=
  (tSeqT (tSetT 1 (tCallT SP__law_near [] (tConsT (tVarT 0) (tConsT (tCon (.int 1)) (tConsT (tCon (.int 4)) tNilT))))) (tSeqT (tSetT 2 (tCallT SP__law_near [] (tConsT (tVarT 0) (tConsT (tCon (.int 1)) (tConsT (tCallT SP__law_pick [] (tConsT (tVarT 0) (tConsT (tLstT (tConsT (tCon (.int 3)) (tConsT (tCon (.int 6)) (tConsT (tCon (.int 6)) (tConsT (tCon (.int 24)) tNilT))))) tNilT))) tNilT))))) (tSeqT (tAsgT (tCallT SP__law_wheel [] (tConsT (tVarT 0) (tConsT (tVarT 1) tNilT))) (gTupT 2 (gConsT (gNameT 3) (gConsT (gNameT 4) gNilT)))) (tSeqT (tSetT 5 (tLcT (tItR1 (tVarT 1)) (gNameT 6) tYesT (tCallT SP__law_tones [] (tConsT (tVarT 0) (tConsT (tVarT 2) tNilT))) [6])) (tSeqT (tForT (tItR2 (tCon (.int 1)) (tVarT 1)) (gNameT 6) (tSeqT (tSetT 7 (tCallT SP__law_delayed [] (tConsT (tOpT oIx (tVarT 5) (tCon (.int 0))) (tConsT (tCallT SP__law_take [] (tConsT (tVarT 0) (tConsT (tVarT 2) tNilT))) tNilT)))) (tSeqT (tSetT 8 (tCallT SP__law_bent_tone [] (tConsT (tVarT 0) (tConsT (tOpT oIx (tVarT 5) (tOpT oSub (tVarT 6) (tCon (.int 1)))) tNilT)))) (tSetIT 5 (tVarT 6) (tCallT SP__law_pick [] (tConsT (tVarT 0) (tConsT (tLstT (tConsT (tOpT oIx (tVarT 5) (tVarT 6)) (tConsT (tOpT oIx (tVarT 5) (tVarT 6)) (tConsT (tOpT oIx (tVarT 5) (tOpT oSub (tVarT 6) (tCon (.int 1)))) (tConsT (tChk (tVarT 7)) (tConsT (tChk (tVarT 8)) tNilT)))))) tNilT))))))) (tRetT (tTupT (tConsT (tChk (tVarT 3)) (tConsT (tChk (tVarT 4)) (tConsT (tCallO oTuple (tConsT (tVarT 5) tNilT)) tNilT))))))))))
/-- reading of _law_twinned -/
def t__law_twinned {b : B} (SP__law_take : TSp) : TTS b.G :=
  (tSeqT (tSetT 2 (tCallO oList (tConsT (tVarT 1) tNilT))) (tSeqT (tIfT (tAndT (tTst (tOpT oLt (tCallO oLen (tConsT (tVarT 2) tNilT)) (tCon (.int 6)))) (tTst (tOpT oGt (tCallT SP__law_take [] (tConsT (tVarT 0) (tConsT (tCon (.int 3)) tNilT))) (tCon (.int 0))))) (tSeqT (tSetT 3 (tCallT SP__law_take [] (tConsT (tVarT 0) (tConsT (tCallO oLen (tConsT (tVarT 2) tNilT)) tNilT)))) (tSeqT (tAppT 2 (tOpT oIx (tVarT 2) (tVarT 3))) (tForT (tItR1 (tCallO oLen (tConsT (tVarT 2) tNilT))) (gNameT 4) (tSeqT (tSetT 5 (tLcT (tItT (tOpT oIx (tVarT 2) (tVarT 4))) (gNameT 6) tYesT (tOpT oIx (tLstT (tConsT (tOpT oIx (tVarT 6) (tCon (.int 0))) (tConsT (tOpT oSub (tCallO oLen (tConsT (tVarT 2) tNilT)) (tCon (.int 1))) tNilT))) (tOpT oMul (tCallO oInt (tConsT (tOpT oEq (tOpT oIx (tVarT 6) (tCon (.int 0))) (tVarT 3)) tNilT)) (tCallT SP__law_take [] (tConsT (tVarT 0) (tConsT (tCon (.int 2)) tNilT))))) [6])) (tSetIT 2 (tVarT 4) (tCallO oTuple (tConsT (tLcT (tItR1 (tCallO oLen (tConsT (tVarT 5) tNilT))) (gNameT 7) tYesT (tOpT oAdd (tTupT (tConsT (tOpT oIx (tVarT 5) (tVarT 7)) tNilT)) (tSlT (tOpT oIx (tOpT oIx (tVarT 2) (tVarT 4)) (tVarT 7)) (tAtT (tCon (.int 1))) tNoT)) [7]) tNilT))))))) tNextT) (tSeqT (tSetT 8 (tCallT SP__law_take [] (tConsT (tVarT 0) (tConsT (tCallO oLen (tConsT (tVarT 2) tNilT)) tNilT)))) (tSeqT (tSetT 9 (tOpT oAdd (tLstT (tConsT (tCon (.int 0)) tNilT)) (tLcT (tItR1 (tOpT oSub (tCallO oLen (tConsT (tVarT 2) tNilT)) (tCon (.int 1)))) (gNameT 7) tYesT (tOpT oAdd (tCon (.int 1)) (tOpT oMod (tCallO oInt (tConsT (tOpT oAdd (tVarT 7) (tVarT 8)) tNilT)) (tOpT oSub (tCallO oLen (tConsT (tVarT 2) tNilT)) (tCon (.int 1))))) [7]))) (tSeqT (tSetT 10 (tLcT (tItT (tVarT 2)) (gNameT 11) tYesT (tTupT tNilT) [11])) (tSeqT (tForT (tItR1 (tCallO oLen (tConsT (tVarT 2) tNilT))) (gNameT 4) (tSetIT 10 (tOpT oIx (tVarT 9) (tVarT 4)) (tCallO oTuple (tConsT (tLcT (tItT (tOpT oIx (tVarT 2) (tVarT 4))) (gNameT 6) tYesT (tOpT oAdd (tTupT (tConsT (tOpT oIx (tVarT 9) (tOpT oIx (tVarT 6) (tCon (.int 0)))) tNilT)) (tSlT (tVarT 6) (tAtT (tCon (.int 1))) tNoT)) [6]) tNilT)))) (tRetT (tCallO oTuple (tConsT (tVarT 10) tNilT)))))))))
/-- reading of _law_other -/
def t__law_other {b : B} (SP__law_take SP__law_twinned SP__law_wheel SP__law_tones SP__law_bent_tone : TSp) : TTS b.G :=
  (tSeqT (tSetT 4 (tCallT SP__law_take [] (tConsT (tVarT 0) (tConsT (tCon (.int 6)) tNilT)))) (tSeqT (tSetT 5 (tCallT SP__law_twinned [] (tConsT (tVarT 0) (tConsT (tVarT 2) tNilT)))) (tSeqT (tSetT 6 (tCallO oList (tConsT (tVarT 3) tNilT))) (tSeqT (tSetT 7 (tOpT oSub (tCallO oLen (tConsT (tVarT 3) tNilT)) (tCon (.int 1)))) (tSeqT (tIfT (tTst (tOpT oEq (tVarT 4) (tCon (.int 0)))) (tSeqT (tSetT 5 (tOpT oIx (tCallT SP__law_wheel [] (tConsT (tVarT 0) (tConsT (tCallO oLen (tConsT (tVarT 3) tNilT)) tNilT))) (tCon (.int 1)))) (tSeqT (tSetT 5 (tCallO oTuple (tConsT (tLcT (tItT (tVarT 5)) (gNameT 8) tYesT (tSlT (tOpT oMulT (tVarT 8) (tCon (.int 3))) tNoT (tAtT (tCallO oLen (tConsT (tVarT 1) tNilT)))) [8]) tNilT))) (tSetT 6 (tLcT (tItT (tVarT 3)) (gNameT 9) tYesT (tCallT SP__law_tones [] (tConsT (tVarT 0) (tConsT (tCallO oLen (tConsT (tOpT oIx (tVarT 3) (tCon (.int 0))) tNilT)) tNilT))) [9])))) tNextT) (tSeqT (tIfT (tTst (tOpT oEq (tVarT 4) (tCon (.int 1)))) (tSeqT (tSetT 6 (tRevT (tVarT 6))) (tSetT 5 (tCallO oTuple (tConsT (tLcT (tItT (tVarT 5)) (gNameT 8) tYesT (tCallO oTuple (tConsT (tLcT (tItT (tVarT 8)) (gNameT 10) tYesT (tTupT (tConsT (tOpT oIx (tVarT 10) (tCon (.int 0))) (tConsT (tOpT oIx (tLstT (tConsT (tOpT oSub (tVarT 7) (tOpT oIx (tVarT 10) (tCon (.int 1)))) (tConsT (tNegT (tCon (.int 1))) tNilT))) (tCallO oInt (tConsT (tOpT oLt (tOpT oIx (tVarT 10) (tCon (.int 1))) (tCon (.int 0))) tNilT))) (tConsT (tOpT oIx (tVarT 10) (tCon (.int 2))) tNilT)))) [10]) tNilT)) [8]) tNilT)))) tNextT) (tSeqT (tIfT (tTst (tOpT oEq (tVarT 4) (tCon (.int 2)))) (tSeqT (tSetT 11 (tCallT SP__law_take [] (tConsT (tVarT 0) (tConsT (tCallO oLen (tConsT (tVarT 6) tNilT)) tNilT)))) (tSetIT 6 (tVarT 11) (tCallT SP__law_bent_tone [] (tConsT (tVarT 0) (tConsT (tOpT oIx (tVarT 6) (tVarT 11)) tNilT))))) tNextT) (tSeqT (tIfT (tTst (tOpT oEq (tVarT 4) (tCon (.int 3)))) (tSeqT (tParT 12 13 (tConsT (tCallT SP__law_take [] (tConsT (tVarT 0) (tConsT (tCallO oLen (tConsT (tVarT 5) tNilT)) tNilT))) (tConsT (tCallT SP__law_take [] (tConsT (tVarT 0) (tConsT (tCallO oLen (tConsT (tVarT 1) tNilT)) tNilT))) tNilT))) (tSeqT (tSetT 14 (tTupT (tConsT (tCallT SP__law_take [] (tConsT (tVarT 0) (tConsT (tCallO oLen (tConsT (tVarT 5) tNilT)) tNilT))) (tConsT (tChk (tVarT 7)) (tConsT (tOpT oAdd (tCon (.int 1)) (tCallT SP__law_take [] (tConsT (tVarT 0) (tConsT (tCon (.int 3)) tNilT)))) tNilT))))) (tSetT 5 (tOpT oAdd (tOpT oAdd (tSlT (tVarT 5) tNoT (tAtT (tVarT 12))) (tTupT (tConsT (tOpT oAdd (tOpT oAdd (tSlT (tOpT oIx (tVarT 5) (tVarT 12)) tNoT (tAtT (tVarT 13))) (tTupT (tConsT (tChk (tVarT 14)) tNilT))) (tSlT (tOpT oIx (tVarT 5) (tVarT 12)) (tAtT (tOpT oAdd (tVarT 13) (tCon (.int 1)))) tNoT)) tNilT))) (tSlT (tVarT 5) (tAtT (tOpT oAdd (tVarT 12) (tCon (.int 1)))) tNoT))))) tNextT) (tRetT (tTupT (tConsT (tChk (tVarT 1)) (tConsT (tChk (tVarT 5)) (tConsT (tCallO oTuple (tConsT (tVarT 6) tNilT)) tNilT)))))))))))))
/-- reading of _law_bells_in -/
def t__law_bells_in {b : B} (SP__law_take : TSp) : TTS b.G :=
  (tRetT (tJoinT (tCon (.str "")) (tLcT (tItT (tCon (.str "abcdef"))) (gNameT 1) (tTst (tOpT oEq (tCallT SP__law_take [] (tConsT (tVarT 0) (tConsT (tCon (.int 2)) tNilT))) (tCon (.int 0)))) (tChk (tVarT 1)) [1])))
/-- reading of _law_heard -/
def t__law_heard {b : B} : TTS b.G :=
  (tSeqT (tSetT 2 (tLstT tNilT)) (tSeqT (tForT (tItT (tVarT 0)) (gNameT 3) (tAppT 2 (tJoinT (tCon (.str "")) (tLcT (tItT (tVarT 3)) (gNameT 4) (tAndT (tTst (tOpT oEq (tCallO oLen (tConsT (tVarT 4) tNilT)) (tCon (.int 1)))) (tTst (tOpT oIn (tVarT 4) (tVarT 1)))) (tChk (tVarT 4)) [4])))) (tRetT (tCallO oTuple (tConsT (tVarT 2) tNilT)))))
/-- reading of _law_heard_list -/
def t__law_heard_list {b : B} (SP__law_heard : TSp) : TTS b.G :=
  (tSeqT (tSetT 3 (tCallT SP__law_heard [] (tConsT (tVarT 0) (tConsT (tVarT 1) tNilT)))) (tSeqT (tSetT 4 (tLstT tNilT)) (tSeqT (tForT (tItR1 (tOpT oMul (tVarT 2) (tCallO oLen (tConsT (tVarT 3) tNilT)))) (gNameT 5) (tIfT (tTst (tOpT oNe (tOpT oIx (tVarT 3) (tOpT oMod (tCallO oInt (tConsT (tVarT 5) tNilT)) (tCallO oLen (tConsT (tVarT 3) tNilT)))) (tCon (.str "")))) (tAppT 4 (tTupT (tConsT (tChk (tVarT 5)) (tConsT (tOpT oIx (tVarT 3) (tOpT oMod (tCallO oInt (tConsT (tVarT 5) tNilT)) (tCallO oLen (tConsT (tVarT 3) tNilT)))) tNilT)))) tNextT)) (tRetT (tCallO oTuple (tConsT (tVarT 4) tNilT))))))
/-- reading of _law_handed -/
def t__law_handed {b : B} (SP__law_take : TSp) : TTS b.G :=
  (tSeqT (tIfT (tTst (tOpT oEq (tCallT SP__law_take [] (tConsT (tVarT 0) (tConsT (tCon (.int 2)) tNilT))) (tCon (.int 0)))) (tRetT (tCallO oList (tConsT (tVarT 1) tNilT))) tNextT) (tRetT (tCallO oTuple (tConsT (tVarT 1) tNilT))))
/-- reading of _law_make_changer -/
def t__law_make_changer {b : B} (SP__law_handed SP_Changer : TSp) : TTS b.G :=
  (tRetT (tMakeT SP_Changer [] (tConsT (tVarT 1) (tConsT (tCallT SP__law_handed [] (tConsT (tVarT 0) (tConsT (tVarT 2) tNilT))) tNilT))))
/-- reading of _law_make_carillon -/
def t__law_make_carillon {b : B} (SP__law_handed SP__law_make_changer SP_Carillon : TSp) : TTS b.G :=
  (tRetT (tMakeT SP_Carillon [] (tConsT (tCallT SP__law_make_changer [] (tConsT (tVarT 0) (tConsT (tVarT 1) (tConsT (tVarT 2) tNilT)))) (tConsT (tCallT SP__law_handed [] (tConsT (tVarT 0) (tConsT (tVarT 3) tNilT))) tNilT))))
/-- reading of _law_joint -/
def t__law_joint {b : B} (SP__law_heard_list : TSp) : TTS b.G :=
  (tSeqT (tSetT 3 (tLstT tNilT)) (tSeqT (tForT (tItT (tLstT (tConsT (tChk (tVarT 0)) (tConsT (tChk (tVarT 1)) tNilT)))) (gNameT 4) (tSeqT (tSetT 5 (tCallO oLen (tConsT (tVarT 3) tNilT))) (tForT (tItT (tOpT oIx (tVarT 4) (tCon (.int 1)))) (gNameT 6) (tSeqT (tSetT 7 (tLstT tNilT)) (tSeqT (tForT (tItT (tVarT 6)) (gNameT 8) (tSeqT (tSetT 9 (tTupT tNilT)) (tSeqT (tIfT (tTst (tOpT oGe (tOpT oIx (tVarT 8) (tCon (.int 1))) (tCon (.int 0)))) (tSetT 9 (tCallT SP__law_heard_list [] (tConsT (tOpT oIx (tOpT oIx (tVarT 4) (tCon (.int 2))) (tOpT oIx (tVarT 8) (tCon (.int 1)))) (tConsT (tVarT 2) (tConsT (tOpT oIx (tVarT 8) (tCon (.int 2))) tNilT))))) tNextT) (tAppT 7 (tTupT (tConsT (tOpT oAdd (tOpT oIx (tVarT 8) (tCon (.int 0))) (tVarT 5)) (tConsT (tChk (tVarT 9)) tNilT))))))) (tAppGiveT 3 7)))))) (tRetV 3)))
/-- reading of _law_telling -/
def t__law_telling {b : B} (w : World) : TTS b.G :=
  (tSeqT (tSetT 3 (tLstT (tConsT (tTupT (tConsT (tCon (.int 0)) (tConsT (tChk (tVarT 1)) (tConsT (tCon (.str "")) tNilT)))) tNilT))) (tSeqT (tSetT 4 (tND1T w (tTupT (tConsT (tCon (.int 0)) (tConsT (tChk (tVarT 1)) tNilT))) (tCon (.bl true)))) (tSeqT (tForT (tItR1 (tCon (.int 40))) (gNameT 5) (tIfT (tTst (tOpT oLt (tVarT 5) (tCallO oLen (tConsT (tVarT 3) tNilT)))) (tSeqT (tAsgT (tOpT oIx (tVarT 3) (tVarT 5)) (gTupT 3 (gConsT (gNameT 6) (gConsT (gNameT 7) (gConsT (gNameT 8) gNilT))))) (tForT (tItR1 (tCallO oLen (tConsT (tVarT 2) tNilT))) (gNameT 9) (tSeqT (tIfT (tTst (tOpT oNe (tOpT oIx (tOpT oIx (tOpT oIx (tVarT 0) (tVarT 6)) (tVarT 9)) (tCon (.int 1))) (tOpT oIx (tOpT oIx (tOpT oIx (tVarT 0) (tVarT 7)) (tVarT 9)) (tCon (.int 1))))) (tRetT (tOpT oAdd (tVarT 8) (tOpT oIx (tVarT 2) (tVarT 9)))) tNextT) (tSeqT (tSetT 10 (tTupT (tConsT (tOpT oIx (tOpT oIx (tOpT oIx (tVarT 0) (tVarT 6)) (tVarT 9)) (tCon (.int 0))) (tConsT (tOpT oIx (tOpT oIx (tOpT oIx (tVarT 0) (tVarT 7)) (tVarT 9)) (tCon (.int 0))) tNilT)))) (tIfT (tTst (tOpT (oNotInD w) (tVarT 10) (tVarT 4))) (tSeqT (tNPutT w 4 (tVarT 10) (tCon (.bl true))) (tAppT 3 (tOpT oAdd (tVarT 10) (tTupT (tConsT (tOpT oAdd (tVarT 8) (tOpT oIx (tVarT 2) (tVarT 9))) tNilT))))) tNextT))))) tNextT)) (tRetT (tCon .non)))))
/-- reading of _law_deep -/
def t__law_deep {b : B} (SP__law_letters SP__law_take SP__law_delayed : TSp) : TTS b.G :=
  (tSeqT (tSetT 1 (tCallT SP__law_letters [] (tConsT (tVarT 0) tNilT))) (tSeqT (tSetT 2 (tOpT oAdd (tCon (.int 2)) (tCallT SP__law_take [] (tConsT (tVarT 0) (tConsT (tCon (.int 4)) tNilT))))) (tSeqT (tSetT 3 (tLstT tNilT)) (tSeqT (tForT (tItT (tLstT (tConsT (tChk (tVarT 2)) (tConsT (tOpT oAdd (tVarT 2) (tCon (.int 1))) tNilT)))) (gNameT 4) (tSeqT (tSetT 5 (tLstT tNilT)) (tSeqT (tForT (tItR1 (tVarT 4)) (gNameT 6) (tAppT 5 (tOpT oMulT (tTupT (tConsT (tTupT (tConsT (tOpT oMod (tCallO oInt (tConsT (tOpT oAdd (tVarT 6) (tCon (.int 1))) tNilT)) (tVarT 4)) (tConsT (tCon (.int 0)) (tConsT (tOpT oAdd (tCon (.int 1)) (tCallO oInt (tConsT (tOpT oEq (tVarT 6) (tOpT oSub (tVarT 2) (tCon (.int 1)))) tNilT))) tNilT)))) tNilT)) (tCallO oLen (tConsT (tVarT 1) tNilT))))) (tAppT 3 (tCallO oTuple (tConsT (tVarT 5) tNilT)))))) (tSeqT (tSetT 7 (tCallT SP__law_delayed [] (tConsT (tOpT oAdd (tTupT (tConsT (tTupT (tConsT (tCon (.str "a")) tNilT)) tNilT)) (tOpT oMulT (tTupT (tConsT (tTupT tNilT) tNilT)) (tCallT SP__law_take [] (tConsT (tVarT 0) (tConsT (tCon (.int 24)) tNilT))))) (tConsT (tCallT SP__law_take [] (tConsT (tVarT 0) (tConsT (tCon (.int 24)) tNilT))) tNilT)))) (tSeqT (tSetT 8 (tCallT SP__law_take [] (tConsT (tVarT 0) (tConsT (tCon (.int 2)) tNilT)))) (tRetT (tTupT (tConsT (tTupT (tConsT (tChk (tVarT 1)) (tConsT (tOpT oIx (tVarT 3) (tVarT 8)) (tConsT (tTupT (tConsT (tChk (tVarT 7)) tNilT)) tNilT)))) (tConsT (tTupT (tConsT (tChk (tVarT 1)) (tConsT (tOpT oIx (tVarT 3) (tOpT oSub (tCon (.int 1)) (tVarT 8))) (tConsT (tTupT (tConsT (tChk (tVarT 7)) (tConsT (tChk (tVarT 7)) tNilT))) tNilT)))) tNilT))))))))))
/-- reading of _law_two -/
def t__law_two {b : B} (SP__law_chimes SP__law_other SP__law_take SP__law_deep SP__law_letters SP__law_pick : TSp) : TTS b.G :=
  (tSeqT (tSetT 1 (tCallT SP__law_chimes [] (tConsT (tVarT 0) tNilT))) (tSeqT (tSetT 2 (tCallT SP__law_other [] (tConsT (tVarT 0) (tConsT (tOpT oIx (tVarT 1) (tCon (.int 0))) (tConsT (tOpT oIx (tVarT 1) (tCon (.int 1))) (tConsT (tOpT oIx (tVarT 1) (tCon (.int 2))) tNilT)))))) (tSeqT (tSetT 3 (tCallT SP__law_take [] (tConsT (tVarT 0) (tConsT (tCon (.int 16)) tNilT)))) (tSeqT (tIfT (tTst (tOpT oLt (tVarT 3) (tCon (.int 2)))) (tRetT (tCallT SP__law_deep [] (tConsT (tVarT 0) tNilT))) tNextT) (tSeqT (tIfT (tOrT (tTst (tOpT oEq (tVarT 3) (tCon (.int 2)))) (tTst (tOpT oEq (tVarT 3) (tCon (.int 3))))) (tSeqT (tSetT 4 (tCallT SP__law_pick [] (tConsT (tVarT 0) (tConsT (tLstT (tConsT (tRevST (tOpT oIx (tVarT 1) (tCon (.int 0)))) (tConsT (tCallT SP__law_letters [] (tConsT (tVarT 0) tNilT)) tNilT))) tNilT)))) (tSetT 2 (tTupT (tConsT (tChk (tVarT 4)) (tConsT (tCallO oTuple (tConsT (tLcT (tItT (tOpT oIx (tVarT 2) (tCon (.int 1)))) (gNameT 5) tYesT (tSlT (tOpT oMulT (tVarT 5) (tCon (.int 3))) tNoT (tAtT (tCallO oLen (tConsT (tVarT 4) tNilT)))) [5]) tNilT)) (tConsT (tOpT oIx (tVarT 2) (tCon (.int 2))) tNilT)))))) tNextT) (tSeqT (tIfT (tOrT (tTst (tOpT oEq (tVarT 3) (tCon (.int 3)))) (tTst (tOpT oEq (tVarT 3) (tCon (.int 4))))) (tSetT 2 (tTupT (tConsT (tOpT oIx (tVarT 2) (tCon (.int 0))) (tConsT (tOpT oIx (tVarT 2) (tCon (.int 1))) (tConsT (tCallO oTuple (tConsT (tLcT (tItT (tOpT oIx (tVarT 2) (tCon (.int 2)))) (gNameT 6) tYesT (tSlT (tOpT oAdd (tVarT 6) (tTupT (tConsT (tTupT tNilT) tNilT))) tNoT (tAtT (tOpT oIx (tLstT (tConsT (tCon (.int 23)) (tConsT (tCon (.int 25)) tNilT))) (tCallO oInt (tConsT (tOpT oLt (tCallO oLen (tConsT (tVarT 6) tNilT)) (tCon (.int 24))) tNilT))))) [6]) tNilT)) tNilT))))) tNextT) (tRetT (tTupT (tConsT (tChk (tVarT 1)) (tConsT (tChk (tVarT 2)) tNilT))))))))))
/-- reading of _law_fault -/
def t__law_fault {b : B} : TTS b.G :=
  (tSeqT (tIfT (tTst (tOpT oNe (tCallO oListS (tConsT (tVarT 2) tNilT)) (tLcT (tItT (tCon (.str "abcdef"))) (gNameT 3) (tTst (tOpT oIn (tVarT 3) (tVarT 2))) (tChk (tVarT 3)) [3]))) (tRetT (tTupT (tConsT (tCon (.bl false)) (tConsT (tCon (.str "bells")) (tConsT (tChk (tVarT 2)) tNilT))))) tNextT) (tSeqT (tIfT (tTst (tOpT oNe (tOpT oIx (tVarT 0) (tCon (.int 0))) (tOpT oIx (tVarT 1) (tCon (.int 0))))) (tRetT (tTupT (tConsT (tCon (.bl false)) (tConsT (tCon (.str "unlike")) (tConsT (tCon (.str "letters")) tNilT))))) tNextT) (tSeqT (tIfT (tTst (tOpT oNe (tCallO oLen (tConsT (tOpT oIx (tOpT oIx (tVarT 0) (tCon (.int 2))) (tCon (.int 0))) tNilT)) (tCallO oLen (tConsT (tOpT oIx (tOpT oIx (tVarT 1) (tCon (.int 2))) (tCon (.int 0))) tNilT)))) (tRetT (tTupT (tConsT (tCon (.bl false)) (tConsT (tCon (.str "unlike")) (tConsT (tCon (.str "size")) tNilT))))) tNextT) (tRetT (tCon .non)))))
/-- reading of _law_alike -/
def t__law_alike {b : B} (SP__law_alike : TSp) : TTS b.G :=
  (tSeqT (tIfT (tTst (tIsiT "tuple" (tVarT 0))) (tSeqT (tIfT (tOrT (tNotT (tTst (tIsiT "tuple" (tVarT 1)))) (tTst (tOpT oNe (tCallO oLen (tConsT (tVarT 0) tNilT)) (tCallO oLen (tConsT (tVarT 1) tNilT))))) (tRetT (tCon (.bl false))) tNextT) (tRetT (tOpT oEq (tCallO oLen (tConsT (tLcT (tItR1 (tCallO oLen (tConsT (tVarT 0) tNilT))) (gNameT 2) (tNotT (tTst (tCallT SP__law_alike [] (tConsT (tOpT oIx (tVarT 0) (tVarT 2)) (tConsT (tOpT oIx (tVarT 1) (tVarT 2)) tNilT))))) (tChk (tVarT 2)) [2]) tNilT)) (tCon (.int 0))))) tNextT) (tSeqT (tIfT (tOrT (tTst (tOpT oIs (tVarT 0) (tCon .non))) (tOrT (tTst (tOpT oIs (tVarT 1) (tCon .non))) (tOrT (tTst (tIsiT "bool" (tVarT 0))) (tTst (tIsiT "bool" (tVarT 1)))))) (tRetT (tAndE (tOpT oEq (tOpT oIs (tVarT 0) (tCon .non)) (tOpT oIs (tVarT 1) (tCon .non))) (tAndE (tOpT oEq (tIsiT "bool" (tVarT 0)) (tIsiT "bool" (tVarT 1))) (tOpT oEq (tVarT 0) (tVarT 1))))) tNextT) (tRetT (tAndE (tOpT oEq (tIsiT "int" (tVarT 0)) (tIsiT "int" (tVarT 1))) (tAndE (tOpT oEq (tIsiT "str" (tVarT 0)) (tIsiT "str" (tVarT 1))) (tOpT oEq (tVarT 0) (tVarT 1)))))))
/-- reading of _law_told -/
def t__law_told {b : B} (SP_alike SP_alike_bells : TSp) : TTS b.G :=
  (tTryT (tSeqT (tIfT (tTst (tVarT 2)) (tSeqT (tSetT 3 (tCallT SP_alike [] (tConsT (tOpT oIx (tVarT 0) (tCon (.int 0))) (tConsT (tOpT oIx (tVarT 0) (tCon (.int 1))) (tConsT (tVarT 1) tNilT))))) (tSeqT (tIfT (tOrT (tNotT (tTst (tIsiT "tuple" (tVarT 3)))) (tTst (tOpT oNe (tCallO oLen (tConsT (tVarT 3) tNilT)) (tCon (.int 2))))) (tRetT (tTupT (tConsT (tCon (.bl true)) (tConsT (tCon .non) tNilT)))) tNextT) (tRetT (tTupT (tConsT (tCon (.bl true)) (tConsT (tOpT oIx (tVarT 3) (tCon (.int 0))) tNilT)))))) tNextT) (tRetT (tTupT (tConsT (tCon (.bl true)) (tConsT (tCallT SP_alike_bells [] (tConsT (tOpT oIx (tVarT 0) (tCon (.int 0))) (tConsT (tOpT oIx (tVarT 0) (tCon (.int 1))) (tConsT (tVarT 1) tNilT)))) tNilT))))) [([("BadBells", true), ("Unlike", false)], 4, fun a _ ns ds => (tRetT (tTupT (tConsT (tOrE (tNotE (tIsT a true (tVarT 4))) (tIsT a false (tVarT 4))) (tConsT (tCon (.str "bells")) (tConsT (tXfT a ns ds "text" (tVarT 4)) tNilT)))))), ([("BadBells", false), ("Unlike", true)], 4, fun a _ ns ds => (tRetT (tTupT (tConsT (tNotE (tIsT a true (tVarT 4))) (tConsT (tCon (.str "unlike")) (tConsT (tXfT a ns ds "field" (tVarT 4)) tNilT))))))])
/-- reading of law -/
def t_law {b : B} (SP__law_store SP__law_two SP__law_bells_in SP__law_pick SP__law_take SP__law_make_carillon SP__law_fault SP__law_told SP__law_alike SP__law_joint SP__law_telling SP_alike : TSp) : TTS b.G :=
  (tSeqT (tSetT 1 (tCallT SP__law_store [] (tConsT (tVarT 0) tNilT))) (tSeqT (tAsgT (tCallT SP__law_two [] (tConsT (tVarT 1) tNilT)) (gTupT 2 (gConsT (gNameT 2) (gConsT (gNameT 3) gNilT)))) (tSeqT (tSetT 4 (tCallT SP__law_pick [] (tConsT (tVarT 1) (tConsT (tLstT (tConsT (tCallT SP__law_bells_in [] (tConsT (tVarT 1) tNilT)) (tConsT (tCon (.str "abcdef")) (tConsT (tCallT SP__law_bells_in [] (tConsT (tVarT 1) tNilT)) (tConsT (tCon (.str "a")) (tConsT (tCon (.str "abcdef")) tNilT)))))) tNilT)))) (tSeqT (tIfT (tTst (tOpT oEq (tCallT SP__law_take [] (tConsT (tVarT 1) (tConsT (tCon (.int 8)) tNilT))) (tCon (.int 0)))) (tSetT 4 (tOpT oAdd (tVarT 4) (tCallT SP__law_pick [] (tConsT (tVarT 1) (tConsT (tLstT (tConsT (tCon (.str "a")) (tConsT (tCon (.str "g")) (tConsT (tCon (.str "A")) (tConsT (tCon (.str " ")) (tConsT (tCon (.str "f")) tNilT)))))) tNilT))))) tNextT) (tSeqT (tSetT 5 (tLcT (tItT (tLstT (tConsT (tChk (tVarT 2)) (tConsT (tChk (tVarT 3)) tNilT)))) (gNameT 6) tYesT (tCallT SP__law_make_carillon [] (tConsT (tVarT 1) (tConsT (tOpT oIx (tVarT 6) (tCon (.int 0))) (tConsT (tOpT oIx (tVarT 6) (tCon (.int 1))) (tConsT (tOpT oIx (tVarT 6) (tCon (.int 2))) tNilT))))) [6])) (tSeqT (tSetT 7 (tCallT SP__law_fault [] (tConsT (tVarT 2) (tConsT (tVarT 3) (tConsT (tVarT 4) tNilT))))) (tSeqT (tIfT (tTst (tOpT oIsNot (tVarT 7) (tCon .non))) (tRetT (tAndE (tCallT SP__law_alike [] (tConsT (tVarT 7) (tConsT (tCallT SP__law_told [] (tConsT (tVarT 5) (tConsT (tVarT 4) (tConsT (tCon (.bl false)) tNilT)))) tNilT))) (tCallT SP__law_alike [] (tConsT (tVarT 7) (tConsT (tCallT SP__law_told [] (tConsT (tVarT 5) (tConsT (tVarT 4) (tConsT (tCon (.bl true)) tNilT)))) tNilT))))) tNextT) (tSeqT (tSetT 8 (tCon (.str ""))) (tSeqT (tForT (tItT (tCon (.str "abcdef"))) (gNameT 9) (tIfT (tTst (tOpT oIs (tCallT SP__law_telling [] (tConsT (tCallT SP__law_joint [] (tConsT (tVarT 2) (tConsT (tVarT 3) (tConsT (tVarT 9) tNilT)))) (tConsT (tCallO oLen (tConsT (tOpT oIx (tVarT 2) (tCon (.int 1))) tNilT)) (tConsT (tOpT oIx (tVarT 2) (tCon (.int 0))) tNilT)))) (tCon .non))) (tSetT 8 (tOpT oAdd (tVarT 8) (tVarT 9))) tNextT)) (tSeqT (tForT (tItT (tLstT (tConsT (tChk (tVarT 4)) (tConsT (tCon (.str "")) (tConsT (tCallT SP__law_bells_in [] (tConsT (tVarT 1) tNilT)) (tConsT (tChk (tVarT 8)) (tConsT (tCallT SP__law_bells_in [] (tConsT (tVarT 1) tNilT)) tNilT))))))) (gNameT 10) (tSeqT (tSetT 7 (tJoinT (tCon (.str "")) (tLcT (tItT (tVarT 10)) (gNameT 9) (tTst (tOpT oIn (tVarT 9) (tVarT 8))) (tChk (tVarT 9)) [9]))) (tSeqT (tSetT 11 (tLstT (tConsT (tCon (.str "apart")) (tConsT (tCon (.str "alike")) tNilT)))) (tSeqT (tIfT (tNotT (tTst (tCallT SP__law_alike [] (tConsT (tTupT (tConsT (tCon (.bl true)) (tConsT (tChk (tVarT 7)) tNilT))) (tConsT (tCallT SP__law_told [] (tConsT (tVarT 5) (tConsT (tVarT 10) (tConsT (tCon (.bl false)) tNilT)))) tNilT))))) (tRetT (tCon (.bl false))) tNextT) (tSeqT (tIfT (tNotT (tTst (tCallT SP__law_alike [] (tConsT (tTupT (tConsT (tCon (.bl true)) (tConsT (tOpT oIx (tVarT 11) (tCallO oInt (tConsT (tOpT oEq (tVarT 7) (tVarT 10)) tNilT))) tNilT))) (tConsT (tCallT SP__law_told [] (tConsT (tVarT 5) (tConsT (tVarT 10) (tConsT (tCon (.bl true)) tNilT)))) tNilT))))) (tRetT (tCon (.bl false))) tNextT) (tIfT (tNotT (tTst (tCallT SP__law_alike [] (tConsT (tTupT (tConsT (tCon (.bl true)) (tConsT (tChk (tVarT 7)) tNilT))) (tConsT (tCallT SP__law_told [] (tConsT (tRevT (tVarT 5)) (tConsT (tVarT 10) (tConsT (tCon (.bl false)) tNilT)))) tNilT))))) (tRetT (tCon (.bl false))) tNextT)))))) (tSeqT (tSetT 12 (tCallT SP__law_telling [] (tConsT (tCallT SP__law_joint [] (tConsT (tVarT 2) (tConsT (tVarT 3) (tConsT (tVarT 4) tNilT)))) (tConsT (tCallO oLen (tConsT (tOpT oIx (tVarT 2) (tCon (.int 1))) tNilT)) (tConsT (tOpT oIx (tVarT 2) (tCon (.int 0))) tNilT))))) (tSeqT (tIfT (tAndT (tTst (tOpT oIsNot (tVarT 12) (tCon .non))) (tNotT (tTst (tCallT SP__law_alike [] (tConsT (tTupT (tConsT (tCon (.str "apart")) (tConsT (tChk (tVarT 12)) tNilT))) (tConsT (tCallT SP_alike [] (tConsT (tOpT oIx (tVarT 5) (tCon (.int 0))) (tConsT (tOpT oIx (tVarT 5) (tCon (.int 1))) (tConsT (tVarT 4) tNilT)))) tNilT)))))) (tRetT (tCon (.bl false))) tNextT) (tRetT (tCallT SP__law_alike [] (tConsT (tTupT (tConsT (tCon (.bl true)) (tConsT (tChk (tVarT 4)) tNilT))) (tConsT (tCallT SP__law_told [] (tConsT (tLstT (tConsT (tOpT oIx (tVarT 5) (tCon (.int 0))) (tConsT (tOpT oIx (tVarT 5) (tCon (.int 0))) tNilT))) (tConsT (tVarT 4) (tConsT (tCon (.bl false)) tNilT)))) tNilT))))))))))))))))
/-- reading of law_rest -/
def t_law_rest {b : B} (SP__law_two SP__law_bells_in SP__law_pick SP__law_take SP__law_make_carillon SP__law_fault SP__law_told SP__law_alike SP__law_joint SP__law_telling SP_alike : TSp) : TTS b.G :=
  (tSeqT (tAsgT (tCallT SP__law_two [] (tConsT (tVarT 1) tNilT)) (gTupT 2 (gConsT (gNameT 2) (gConsT (gNameT 3) gNilT)))) (tSeqT (tSetT 4 (tCallT SP__law_pick [] (tConsT (tVarT 1) (tConsT (tLstT (tConsT (tCallT SP__law_bells_in [] (tConsT (tVarT 1) tNilT)) (tConsT (tCon (.str "abcdef")) (tConsT (tCallT SP__law_bells_in [] (tConsT (tVarT 1) tNilT)) (tConsT (tCon (.str "a")) (tConsT (tCon (.str "abcdef")) tNilT)))))) tNilT)))) (tSeqT (tIfT (tTst (tOpT oEq (tCallT SP__law_take [] (tConsT (tVarT 1) (tConsT (tCon (.int 8)) tNilT))) (tCon (.int 0)))) (tSetT 4 (tOpT oAdd (tVarT 4) (tCallT SP__law_pick [] (tConsT (tVarT 1) (tConsT (tLstT (tConsT (tCon (.str "a")) (tConsT (tCon (.str "g")) (tConsT (tCon (.str "A")) (tConsT (tCon (.str " ")) (tConsT (tCon (.str "f")) tNilT)))))) tNilT))))) tNextT) (tSeqT (tSetT 5 (tLcT (tItT (tLstT (tConsT (tChk (tVarT 2)) (tConsT (tChk (tVarT 3)) tNilT)))) (gNameT 6) tYesT (tCallT SP__law_make_carillon [] (tConsT (tVarT 1) (tConsT (tOpT oIx (tVarT 6) (tCon (.int 0))) (tConsT (tOpT oIx (tVarT 6) (tCon (.int 1))) (tConsT (tOpT oIx (tVarT 6) (tCon (.int 2))) tNilT))))) [6])) (tSeqT (tSetT 7 (tCallT SP__law_fault [] (tConsT (tVarT 2) (tConsT (tVarT 3) (tConsT (tVarT 4) tNilT))))) (tSeqT (tIfT (tTst (tOpT oIsNot (tVarT 7) (tCon .non))) (tRetT (tAndE (tCallT SP__law_alike [] (tConsT (tVarT 7) (tConsT (tCallT SP__law_told [] (tConsT (tVarT 5) (tConsT (tVarT 4) (tConsT (tCon (.bl false)) tNilT)))) tNilT))) (tCallT SP__law_alike [] (tConsT (tVarT 7) (tConsT (tCallT SP__law_told [] (tConsT (tVarT 5) (tConsT (tVarT 4) (tConsT (tCon (.bl true)) tNilT)))) tNilT))))) tNextT) (tSeqT (tSetT 8 (tCon (.str ""))) (tSeqT (tForT (tItT (tCon (.str "abcdef"))) (gNameT 9) (tIfT (tTst (tOpT oIs (tCallT SP__law_telling [] (tConsT (tCallT SP__law_joint [] (tConsT (tVarT 2) (tConsT (tVarT 3) (tConsT (tVarT 9) tNilT)))) (tConsT (tCallO oLen (tConsT (tOpT oIx (tVarT 2) (tCon (.int 1))) tNilT)) (tConsT (tOpT oIx (tVarT 2) (tCon (.int 0))) tNilT)))) (tCon .non))) (tSetT 8 (tOpT oAdd (tVarT 8) (tVarT 9))) tNextT)) (tSeqT (tForT (tItT (tLstT (tConsT (tChk (tVarT 4)) (tConsT (tCon (.str "")) (tConsT (tCallT SP__law_bells_in [] (tConsT (tVarT 1) tNilT)) (tConsT (tChk (tVarT 8)) (tConsT (tCallT SP__law_bells_in [] (tConsT (tVarT 1) tNilT)) tNilT))))))) (gNameT 10) (tSeqT (tSetT 7 (tJoinT (tCon (.str "")) (tLcT (tItT (tVarT 10)) (gNameT 9) (tTst (tOpT oIn (tVarT 9) (tVarT 8))) (tChk (tVarT 9)) [9]))) (tSeqT (tSetT 11 (tLstT (tConsT (tCon (.str "apart")) (tConsT (tCon (.str "alike")) tNilT)))) (tSeqT (tIfT (tNotT (tTst (tCallT SP__law_alike [] (tConsT (tTupT (tConsT (tCon (.bl true)) (tConsT (tChk (tVarT 7)) tNilT))) (tConsT (tCallT SP__law_told [] (tConsT (tVarT 5) (tConsT (tVarT 10) (tConsT (tCon (.bl false)) tNilT)))) tNilT))))) (tRetT (tCon (.bl false))) tNextT) (tSeqT (tIfT (tNotT (tTst (tCallT SP__law_alike [] (tConsT (tTupT (tConsT (tCon (.bl true)) (tConsT (tOpT oIx (tVarT 11) (tCallO oInt (tConsT (tOpT oEq (tVarT 7) (tVarT 10)) tNilT))) tNilT))) (tConsT (tCallT SP__law_told [] (tConsT (tVarT 5) (tConsT (tVarT 10) (tConsT (tCon (.bl true)) tNilT)))) tNilT))))) (tRetT (tCon (.bl false))) tNextT) (tIfT (tNotT (tTst (tCallT SP__law_alike [] (tConsT (tTupT (tConsT (tCon (.bl true)) (tConsT (tChk (tVarT 7)) tNilT))) (tConsT (tCallT SP__law_told [] (tConsT (tRevT (tVarT 5)) (tConsT (tVarT 10) (tConsT (tCon (.bl false)) tNilT)))) tNilT))))) (tRetT (tCon (.bl false))) tNextT)))))) (tSeqT (tSetT 12 (tCallT SP__law_telling [] (tConsT (tCallT SP__law_joint [] (tConsT (tVarT 2) (tConsT (tVarT 3) (tConsT (tVarT 4) tNilT)))) (tConsT (tCallO oLen (tConsT (tOpT oIx (tVarT 2) (tCon (.int 1))) tNilT)) (tConsT (tOpT oIx (tVarT 2) (tCon (.int 0))) tNilT))))) (tSeqT (tIfT (tAndT (tTst (tOpT oIsNot (tVarT 12) (tCon .non))) (tNotT (tTst (tCallT SP__law_alike [] (tConsT (tTupT (tConsT (tCon (.str "apart")) (tConsT (tChk (tVarT 12)) tNilT))) (tConsT (tCallT SP_alike [] (tConsT (tOpT oIx (tVarT 5) (tCon (.int 0))) (tConsT (tOpT oIx (tVarT 5) (tCon (.int 1))) (tConsT (tVarT 4) tNilT)))) tNilT)))))) (tRetT (tCon (.bl false))) tNextT) (tRetT (tCallT SP__law_alike [] (tConsT (tTupT (tConsT (tCon (.bl true)) (tConsT (tChk (tVarT 4)) tNilT))) (tConsT (tCallT SP__law_told [] (tConsT (tLstT (tConsT (tOpT oIx (tVarT 5) (tCon (.int 0))) (tConsT (tOpT oIx (tVarT 5) (tCon (.int 0))) tNilT))) (tConsT (tVarT 4) (tConsT (tCon (.bl false)) tNilT)))) tNilT)))))))))))))))
end TL
set_option Elab.async false
set_option linter.all false
set_option maxRecDepth 100000
/-! TV1: typed data as trees; loops and comprehensions by their lists. -/
namespace TL
open PySem PySem.Spec PyProof.Rows L2
theorem lcL_xs {G : Type} {α : Type} {gt : TTG} {tt : TTB G} {te : TTE G} {ρ : Rho} {Q : List D → G → Prop} (enc : α → D) (f : α → Option D) {g : G} : ∀ (xs : List α) (acc : List D),
    (∀ x ∈ xs, ∀ (K1 : D → G → Prop) (K0 : G → Prop), (∀ y, f x = some y → K1 y g) → (f x = none → K0 g) → gt (enc x) ρ fun ρ' => tt ρ' g noX fun k g1 => if k = true then te ρ' g1 noX K1 else K0 g1) →
    Q (acc ++ xs.filterMap f) g → lcL gt tt te ρ Q (xs.map enc) acc g
  | [], acc, _, q => by
    rw [List.filterMap_nil, List.append_nil] at q
    exact q
  | x :: xs, acc, h, q => by
    refine h x (List.mem_cons_self ..) _ _ (fun y e => ?_) (fun e => ?_)
    · refine lcL_xs enc f xs _ (fun x' hx => h x' (List.mem_cons_of_mem _ hx)) ?_
      rw [List.filterMap_cons, e] at q
      simpa using q
    · refine lcL_xs enc f xs _ (fun x' hx => h x' (List.mem_cons_of_mem _ hx)) ?_
      rw [List.filterMap_cons, e] at q
      exact q
/-- the same for a comprehension without a test -/
theorem lcL_map {G : Type} {α : Type} {gt : TTG} {te : TTE G} {ρ : Rho} {Q : List D → G → Prop} (enc : α → D) (f : α → D) {g : G} (xs : List α) (acc : List D)
    (h : ∀ x ∈ xs, ∀ (K1 : D → G → Prop), K1 (f x) g → gt (enc x) ρ fun ρ' => te ρ' g noX K1) (q : Q (acc ++ xs.map f) g) : lcL gt tYesT te ρ Q (xs.map enc) acc g := by
  refine lcL_xs enc (fun x => some (f x)) xs acc (fun x hx K1 K0 h1 _ => ?_) ?_
  · have := h x hx K1 (h1 _ rfl)
    simpa [tYesT] using this
  · rw [show xs.filterMap (fun x => some (f x)) = xs.map f by induction xs with | nil => rfl | cons a l ih => simp]
    exact q
theorem forL_xs {G : Type} {α : Type} {gt : TTG} {tb : TTS G} {TD : TEnds G} {ex : TX G} (enc : α → D) (I : List α → Rho → G → Prop) : ∀ (xs : List α) (ρ : Rho) (g : G),
    (∀ x rest ρ g (K : Rho → G → Prop), (∀ ρ g, I rest ρ g → K ρ g) → I (x :: rest) ρ g → gt (enc x) ρ fun ρ' => tb { TD with nx := K, ct := K, bk := TD.nx } ex ρ' g) → (∀ ρ g, I [] ρ g → TD.nx ρ g) → I xs ρ g → forL gt tb TD ex (xs.map enc) ρ g
  | [], ρ, g, h, he, q => he _ _ q
  | x :: xs, ρ, g, h, he, q => h x xs ρ g _ (fun ρ g q => forL_xs enc I xs ρ g h he q) q

/-! ### texts -/
abbrev sg (k : Nat) : Str := ⟨#[k]⟩
theorem joinL_ones : ∀ ks : List Nat, TL.joinL [] (ks.map fun k => [k]) = ks
  | [] => rfl
  | [k] => rfl
  | k :: j :: ks => by
    have ih := joinL_ones (j :: ks)
    show [k] ++ [] ++ TL.joinL [] ((j :: ks).map fun k => [k]) = _
    rw [ih]; rfl
theorem join_sg (ks : List Nat) : Txt.join "" (ks.map sg) = SX.S ks := by
  have h := SX.join_S [] (ks.map fun k => [k])
  rw [joinL_ones, List.map_map] at h
  exact h
end TL
set_option Elab.async false
set_option linter.all false
set_option maxRecDepth 100000
/-! TV2: equality of typed data. -/
namespace TL
open PySem PySem.Spec PyProof.Rows L2
/-- data of one shape: == of its trees is = -/
class En (α : Type) where
  d : α → D
  ok : α → Prop
  dep : Nat
  pl : ∀ a, (d a).pl = true
  lay : ∀ a, ok a → (d a).py.canLay0 = true
  depth : ∀ a, (d a).py.depth ≤ dep
  eqv : ∀ a b, ((d a).py.eqv (d b).py = true) ↔ a = b
  top : ∀ a, (d a).top = false
instance : En Int := ⟨.int, fun _ => True, 0, fun _ => rfl, fun _ _ => by simp [D.py, PyData.canLay0], fun _ => by simp [D.py, PyData.depth], fun a b => by simp [D.py, PyData.eqv], fun _ => rfl⟩
instance : En Str := ⟨.str, fun z => PyData.strOk z = true, 0, fun _ => rfl, fun z h => by simpa [D.py, PyData.canLay0] using h, fun _ => by simp [D.py, PyData.depth], fun a b => by simp [D.py, PyData.eqv], fun _ => rfl⟩
theorem pls_map {α : Type} (f : α → D) (h : ∀ a, (f a).pl = true) : ∀ xs : List α, pls (xs.map f) = true
  | [] => rfl
  | x :: xs => by simp [pls, h x, pls_map f h xs]
theorem pys_map {α : Type} (f : α → D) : ∀ xs : List α, pys (xs.map f) = xs.map fun a => (f a).py
  | [] => rfl
  | x :: xs => by simp [pys, pys_map f xs]
theorem lay_map {α : Type} (f : α → D) : ∀ xs : List α, (∀ a ∈ xs, (f a).py.canLay0 = true) → PyData.canLayAll0 (xs.map fun a => (f a).py) = true
  | [], _ => rfl
  | x :: xs, h => by simp [PyData.canLayAll0, h x (List.mem_cons_self ..), lay_map f xs fun a ha => h a (List.mem_cons_of_mem _ ha)]
theorem eqv_map {α : Type} (f : α → D) (h : ∀ a b, ((f a).py.eqv (f b).py = true) ↔ a = b) : ∀ xs ys : List α, (PyData.eqvAll (xs.map fun a => (f a).py) (ys.map fun a => (f a).py) = true) ↔ xs = ys
  | [], [] => by simp [PyData.eqvAll]
  | x :: xs, [] => by simp [PyData.eqvAll]
  | [], y :: ys => by simp [PyData.eqvAll]
  | x :: xs, y :: ys => by simp [PyData.eqvAll, h x y, eqv_map f h xs ys]
theorem depth_map {α : Type} (f : α → D) (n : Nat) (h : ∀ a, (f a).py.depth ≤ n) : ∀ xs : List α, PyData.depthAll (xs.map fun a => (f a).py) ≤ n
  | [] => by simp [PyData.depthAll]
  | x :: xs => by simp only [List.map_cons, PyData.depthAll]; have := h x; have := depth_map f n h xs; omega
instance {α : Type} [En α] : En (List α) := ⟨fun xs => .tup (xs.map En.d), fun xs => ∀ a ∈ xs, En.ok a, En.dep α + 1, fun xs => by simp [D.pl, pls_map _ En.pl], fun xs h => by
    rw [D.py, pys_map, PyData.canLay0]; exact lay_map _ _ fun a ha => En.lay a (h a ha), fun xs => by
    rw [D.py, pys_map, PyData.depth]; have := depth_map (En.d (α := α)) (En.dep α) En.depth xs; omega, fun a b => by
    rw [D.py, D.py, pys_map, pys_map, PyData.eqv]; exact eqv_map _ En.eqv a b, fun _ => rfl⟩
instance {α β : Type} [En α] [En β] : En (α × β) := ⟨fun p => .tup [En.d p.1, En.d p.2], fun p => En.ok p.1 ∧ En.ok p.2, max (En.dep α) (En.dep β) + 1, fun p => by simp [D.pl, pls, En.pl], fun p h => by
    simp [D.py, pys, PyData.canLay0, PyData.canLayAll0, En.lay _ h.1, En.lay _ h.2], fun p => by
    simp only [D.py, pys, PyData.depth, PyData.depthAll]; have := En.depth p.1; have := En.depth p.2; omega, fun a b => by
    simp [D.py, pys, PyData.eqv, PyData.eqvAll, En.eqv, Prod.ext_iff], fun _ => rfl⟩
theorem oEq_en {α : Type} [En α] [DecidableEq α] (a b : α) {Q : D → Prop} (ha : En.ok a) (hb : En.ok b) (hd : En.dep α ≤ 64) (q : Q (.bl (decide (a = b)))) : oEq (En.d a) (En.d b) Q := by
  have key : (En.d a).py.eqv (En.d b).py = decide (a = b) := by
    rw [Bool.eq_iff_iff, En.eqv, decide_eq_true_iff]
  exact ⟨⟨En.pl a, En.pl b, by unfold SeqAt.shaped; rw [En.lay a ha, decide_eq_true (Nat.le_trans (En.depth a) hd)]; rfl, by unfold SeqAt.shaped; rw [En.lay b hb, decide_eq_true (Nat.le_trans (En.depth b) hd)]; rfl⟩, by rw [key]; exact q⟩
theorem oNe_en {α : Type} [En α] [DecidableEq α] (a b : α) {Q : D → Prop} (ha : En.ok a) (hb : En.ok b) (hd : En.dep α ≤ 64) (q : Q (.bl (!decide (a = b)))) : oNe (En.d a) (En.d b) Q := by
  have key : (En.d a).py.eqv (En.d b).py = decide (a = b) := by
    rw [Bool.eq_iff_iff, En.eqv, decide_eq_true_iff]
  exact ⟨⟨En.pl a, En.pl b, by unfold SeqAt.shaped; rw [En.lay a ha, decide_eq_true (Nat.le_trans (En.depth a) hd)]; rfl, by unfold SeqAt.shaped; rw [En.lay b hb, decide_eq_true (Nat.le_trans (En.depth b) hd)]; rfl⟩, by rw [key]; exact q⟩
theorem En.d_str (z : Str) : En.d z = D.str z := rfl
theorem En.d_int (z : Int) : En.d z = D.int z := rfl
theorem En.d_list {α : Type} [En α] (xs : List α) : En.d xs = D.tup (xs.map En.d) := rfl
theorem En.d_prod {α β : Type} [En α] [En β] (p : α × β) : En.d p = D.tup [En.d p.1, En.d p.2] := rfl
end TL
set_option Elab.async false
set_option linter.all false
set_option maxRecDepth 100000
/-! TV3: typed data as keys. -/
namespace TL
open PySem PySem.Spec PyProof.Rows L2
class Ky (α : Type) [En α] where
  kd : Nat
  pl : ∀ a : α, (En.d a).nkPl = true
  dp : ∀ a : α, (En.d a).nk.depth ≤ kd
  inj : ∀ a b : α, (En.d a).nk = (En.d b).nk → a = b
instance : Ky Int := ⟨0, fun _ => rfl, fun _ => Nat.le_refl _, fun a b h => by injection h⟩
instance : Ky Str := ⟨0, fun _ => rfl, fun _ => Nat.le_refl _, fun a b h => by injection h⟩
theorem nks_map {α : Type} (f : α → D) : ∀ xs : List α, nks (xs.map f) = xs.map fun a => (f a).nk
  | [] => rfl
  | x :: xs => by rw [List.map_cons, nks, nks_map f xs, List.map_cons]
theorem nkPls_map {α : Type} (f : α → D) (h : ∀ a, (f a).nkPl = true) : ∀ xs : List α, nkPls (xs.map f) = true
  | [] => rfl
  | x :: xs => by rw [List.map_cons, nkPls, h x, nkPls_map f h xs]; rfl
theorem depthAll_map {α : Type} (f : α → NestedKey) (n : Nat) (h : ∀ a, (f a).depth ≤ n) : ∀ xs : List α, NestedKey.depthAll (xs.map f) ≤ n
  | [] => Nat.zero_le _
  | x :: xs => by rw [List.map_cons, NestedKey.depthAll]; have := h x; have := depthAll_map f n h xs; omega
theorem map_inj' {α β : Type} (f : α → β) (h : ∀ a b, f a = f b → a = b) : ∀ xs ys : List α, xs.map f = ys.map f → xs = ys
  | [], [], _ => rfl
  | x :: xs, [], e => by cases e
  | [], y :: ys, e => by cases e
  | x :: xs, y :: ys, e => by
    injection e with e1 e2
    rw [h x y e1, map_inj' f h xs ys e2]
instance {α : Type} [En α] [Ky α] : Ky (List α) := ⟨Ky.kd α + 1, fun xs => by rw [En.d_list]; exact nkPls_map _ Ky.pl xs, fun xs => by
    rw [En.d_list, D.nk, nks_map, NestedKey.depth]; have := depthAll_map (fun a : α => (En.d a).nk) (Ky.kd α) Ky.dp xs; omega, fun xs ys h => by
    rw [En.d_list, En.d_list, D.nk, D.nk, nks_map, nks_map] at h
    injection h with h
    exact map_inj' _ Ky.inj xs ys h⟩
instance {α β : Type} [En α] [Ky α] [En β] [Ky β] : Ky (α × β) := ⟨max (Ky.kd α) (Ky.kd β) + 1, fun p => by rw [En.d_prod]; simp [D.nkPl, nkPls, Ky.pl], fun p => by
    rw [En.d_prod, D.nk, nks, nks, nks, NestedKey.depth, NestedKey.depthAll, NestedKey.depthAll, NestedKey.depthAll]; have := Ky.dp p.1; have := Ky.dp p.2; omega, fun p q h => by
    rw [En.d_prod, En.d_prod, D.nk, D.nk, nks, nks, nks, nks, nks, nks] at h
    injection h with h
    injection h with h1 h2
    injection h2 with h2 _
    exact Prod.ext (Ky.inj _ _ h1) (Ky.inj _ _ h2)⟩
def dV (s n : Nat) : List D := (List.range' s n).map fun i : Nat => D.int (i : Nat)
theorem dV_snoc (n : Nat) : dV 0 (n + 1) = dV 0 n ++ [D.int (n : Nat)] := by
  unfold dV
  rw [List.range'_1_concat, List.map_append, Nat.zero_add]; rfl
theorem atD_idx {α : Type} [En α] [Ky α] [DecidableEq α] (x : α) : ∀ (fs : List α) (s : Nat), x ∈ fs → atD (fs.map En.d) (dV s fs.length) (En.d x).nk = some (D.int ((s + fs.idxOf x : Nat) : Int))
  | [], s, h => by cases h
  | y :: fs, s, h => by
    have e : dV s (y :: fs).length = D.int (s : Nat) :: dV (s + 1) fs.length := by unfold dV; rw [List.length_cons, List.range'_succ]; rfl
    rw [e, List.map_cons, atD, List.idxOf_cons]
    by_cases q : y = x
    · subst q; simp
    · rw [if_neg (fun z => q (Ky.inj _ _ z)), atD_idx x fs (s + 1) ((List.mem_cons.mp h).resolve_left fun z => q z.symm), show (y == x) = false from by simpa using q]
      simp only [cond_false]
      congr 2
      omega
end TL
set_option Elab.async false
set_option linter.all false
set_option maxRecDepth 100000
/-! VA1: bells and heard lists. -/
namespace TL
open PySem PySem.Spec PyProof.Rows L2
abbrev Str.ks (z : Str) : List Nat := z.cps.toList
theorem inV_tx (z : Str) (ss : List Str) : inV (.str z) ((ss.map D.str).map D.fv) = decide (z ∈ ss) := by
  rw [List.map_map]; exact inV_strs z ss
theorem flat_strs (ss : List Str) : (ss.map D.str).all D.flat = true := by simp [D.flat]
theorem filt_sg (p : Nat → Bool) (ks : List Nat) : (ks.filterMap fun k => if p k = true then some (D.str (sg k)) else none) = ((ks.filter p).map sg).map D.str := by
  induction ks with
  | nil => rfl
  | cons k ks ih => by_cases h : p k = true <;> simp [h, ih]
theorem sum_ones (ks : List Nat) : ((ks.map sg).map fun y => y.length).sum = ks.length := by
  induction ks with
  | nil => rfl
  | cons k ks ih => simp only [List.map_cons, List.sum_cons, ih, List.length_cons]; simp [Str.length]; omega
theorem lcL_signs {G : Type} {tt : TTB G} {ρ : Rho} {Q : List D → G → Prop} {g : G} (i : Nat) (hi : i < ρ.length) (p : Nat → Bool) (z : Str) (ht : ∀ k ∈ z.cps.toList, ∀ K : Bool → G → Prop, K (p k) g → tt (ρ.set i (some (.str (sg k)))) g noX K)
    (q : Q (((z.cps.toList.filter p).map sg).map D.str) g) : lcL (gNameT i) tt (tChk (tVarT i)) ρ Q (signs z) [] g := by
  unfold signs
  refine lcL_xs (fun k => D.str (sg k)) (fun k => if p k = true then some (D.str (sg k)) else none) _ _ (fun k hk K1 K0 h1 h0 => ?_) (by rw [List.nil_append, filt_sg]; exact q)
  refine ht k hk _ ?_
  cases hp : p k with
  | true => rw [if_pos rfl]; exact ⟨_, set_get hi, rfl, h1 _ (by simp [hp])⟩
  | false => rw [if_neg Bool.false_ne_true]; exact h0 (by simp [hp])
theorem oJoin_signs {Q : D → Prop} (ks : List Nat) (hl : ks.length ≤ 16777216) (q : Q (.str (SX.S ks))) : oJoin "" (.lst ((ks.map sg).map D.str)) Q :=
  ⟨ks.map sg, ⟨rfl, by rw [sum_ones]; show ks.length + _ * 0 ≤ _; omega⟩, by rw [join_sg]; exact q⟩
theorem oIn_sign {Q : D → Prop} (k : Nat) (z : Str) (q : Q (.bl (decide (k ∈ z.cps.toList)))) : oIn (.str (sg k)) (.str z) Q := ⟨k, rfl, q⟩
theorem oIn_tx {Q : D → Prop} (x : Str) (ss : List Str) (q : Q (.bl (decide (x ∈ ss)))) : oIn (.str x) (.tup (ss.map D.str)) Q := ⟨⟨rfl, flat_strs ss⟩, by rw [if_neg Bool.false_ne_true]; exact (inV_tx x ss).symm ▸ q⟩
theorem mem_ok {z : Str} (h : En.ok z) : ∀ k ∈ z.cps.toList, k < 0x110000 := fun k hk => by
  have h : z.cps.all (· < 0x110000) = true := h
  rw [← Array.all_toList] at h
  simpa using List.all_eq_true.mp h k hk
theorem S_ok {ks : List Nat} (h : ∀ k ∈ ks, k < 0x110000) : En.ok (SX.S ks) := by
  show (SX.S ks).cps.all (· < 0x110000) = true
  rw [← Array.all_toList]
  exact List.all_eq_true.mpr fun k hk => by simpa using h k hk

def okB (z : Str) : Bool := decide (z = SX.S (("abcdef" : Str).cps.toList.filter fun k => decide (k ∈ z.cps.toList)))
def SP_check_bells : TSp := fun b ds g Q E => ∃ z : Str, ds = [.str z] ∧ En.ok z ∧ (if okB z = true then Q .non g else E g "BadBells" ["text"] [.str z])
theorem ite_mono {p p' q q' : Prop} {c : Bool} (h : p → p') (h' : q → q') (x : if c = true then p else q) : if c = true then p' else q' := by
  cases c with
  | true => rw [if_pos rfl] at x ⊢; exact h x
  | false => rw [if_neg Bool.false_ne_true] at x ⊢; exact h' x
theorem ok_check_bells : SpOk 1 SP_check_bells := ⟨fun b ds g Q E ⟨z, e, _⟩ => by rw [e]; rfl, fun b ds g Q Q' E E' w w' ⟨z, e, h, q⟩ => ⟨z, e, h, ite_mono (w _ _) (w' _ _ _ _) q⟩⟩
theorem v_check_bells (b : B) (ds g Q X) (h : SP_check_bells b ds g Q X) : VC (t_check_bells (b := b)) ["bells", "bell"] ds g Q X := by
  obtain ⟨z, rfl, hz, h⟩ := h
  refine ⟨_, rfl, "", rfl, by simp [signs]; decide, ?_⟩
  refine lcL_signs 1 (Nat.le_of_ble_eq_true rfl) (fun k => decide (k ∈ z.cps.toList)) _ (fun k hk K q => ⟨_, rfl, _, rfl, oIn_sign k z ⟨_, rfl, q⟩⟩) ?_
  refine oJoin_signs _ (Nat.le_trans (List.length_filter_le _ _) (by decide)) ?_
  refine oNe_en z _ hz (S_ok fun k hk => mem_ok (z := "abcdef") (show PyData.strOk ("abcdef" : Str) = true by decide +kernel) k (List.mem_filter.mp hk).1) (by decide) ⟨_, rfl, ?_⟩
  unfold okB at h
  cases hd : decide (z = SX.S (("abcdef" : Str).cps.toList.filter fun k => decide (k ∈ z.cps.toList))) with
  | true => rw [hd, if_pos rfl] at h; simpa using h
  | false => rw [hd, if_neg Bool.false_ne_true] at h; exact ⟨_, rfl, rfl, _, rfl, h⟩

abbrev Score := List (List Str)
def heardSlot (z : Str) (slot : List Str) : Str := SX.S (z.cps.toList.filter fun k => decide (sg k ∈ slot))
def SP_heard_slots : TSp := fun b ds g Q E => ∃ (sc : Score) (z : Str), ds = [En.d sc, .str z] ∧ (En.ok z ∧ z.cps.toList.length ≤ 1000 ∧ sc.length ≤ 1000) ∧ (if okB z = true then Q (En.d (sc.map (heardSlot z))) g else E g "BadBells" ["text"] [.str z])
theorem ok_heard_slots : SpOk 2 SP_heard_slots := ⟨fun b ds g Q E ⟨s, z, e, _⟩ => by rw [e]; rfl, fun b ds g Q Q' E E' w w' ⟨s, z, e, h, q⟩ => ⟨s, z, e, h, ite_mono (w _ _) (w' _ _ _ _) q⟩⟩
theorem sizeLine_big : 1000000 ≤ sizeLine := by rw [sizeLine_eq]; decide
theorem v_heard_slots (b : B) (ds g Q X) (h : SP_heard_slots b ds g Q X) : VC (t_heard_slots (b := b) SP_check_bells) ["score", "bells", "slot", "bell"] ds g Q X := by
  obtain ⟨sc, z, rfl, ⟨hz, hl, hs⟩, h⟩ := h
  refine ⟨_, rfl, z, rfl, hz, ite_mono (fun h => ?_) id h⟩
  have hb := sizeLine_big
  refine ⟨_, rfl, by simp [En.d_list]; omega, ?_⟩
  refine lcL_map En.d (fun slot => D.str (heardSlot z slot)) sc [] (fun slot _ K1 q => ?_) ?_
  · refine ⟨"", rfl, _, rfl, by simp [signs]; simp at hl; omega, ?_⟩
    refine lcL_signs 3 (Nat.le_of_ble_eq_true rfl) (fun k => decide (sg k ∈ slot)) z (fun k hk K q => ⟨_, rfl, _, rfl, oIn_tx (sg k) slot ⟨_, rfl, q⟩⟩) ?_
    exact oJoin_signs _ (Nat.le_trans (List.length_filter_le _ _) (by omega)) q
  · have e : sc.map (fun slot => D.str (heardSlot z slot)) = (sc.map (heardSlot z)).map En.d := by rw [List.map_map]; rfl
    rw [List.nil_append, e]
    exact h
end TL
set_option Elab.async false
set_option linter.all false
set_option maxRecDepth 100000
/-! VA2: heard lists. -/
namespace TL
open PySem PySem.Spec PyProof.Rows L2
theorem enumD_map {α : Type} (f : α → D) (xs : List α) : enumD (xs.map f) = xs.zipIdx.map fun q => D.tup [.int (q.2 : Nat), f q.1] := by
  unfold enumD
  rw [List.zipIdx_map, List.map_map]
  rfl
theorem zipIdx_mem {α : Type} {l : List α} {q : α × Nat} (h : q ∈ l.zipIdx) : q.1 ∈ l := by
  have := List.mem_map_of_mem (f := Prod.fst) h
  rwa [List.zipIdx_map_fst] at this
abbrev Heard := List (Int × Str)
def verseL (slots : List Str) (r : Nat) : Heard := slots.zipIdx.filterMap fun q => if q.1 = ("" : Str) then none else some ((r : Int) * (slots.length : Nat) + (q.2 : Nat), q.1)
def heardL (slots : List Str) (v : Nat) : Heard := (List.range v).flatMap (verseL slots)
theorem verseL_len (slots : List Str) (r : Nat) : (verseL slots r).length ≤ slots.length := by
  unfold verseL
  exact Nat.le_trans (List.length_filterMap_le _ _) (by simp)
theorem heardL_len (slots : List Str) (v : Nat) : (heardL slots v).length ≤ v * slots.length := by
  unfold heardL
  rw [List.length_flatMap]
  have : ∀ l : List Nat, (l.map fun r => (verseL slots r).length).sum ≤ l.length * slots.length := fun l => by
    induction l with
    | nil => simp
    | cons a l ih => simp only [List.map_cons, List.sum_cons, List.length_cons]; have := verseL_len slots a; rw [Nat.add_mul]; omega
  simpa using this (List.range v)
def SP_heard_list : TSp := fun b ds g Q E => ∃ (sc : Score) (z : Str) (v : Nat), ds = [En.d sc, .str z, .int v] ∧ (En.ok z ∧ z.cps.toList.length ≤ 1000 ∧ sc.length ≤ 1000 ∧ v ≤ 100) ∧ (if okB z = true then Q (En.d (heardL (sc.map (heardSlot z)) v)) g else E g "BadBells" ["text"] [.str z])
theorem ok_heard_list : SpOk 3 SP_heard_list := ⟨fun b ds g Q E ⟨s, z, v, e, _⟩ => by rw [e]; rfl, fun b ds g Q Q' E E' w w' ⟨s, z, v, e, h, q⟩ => ⟨s, z, v, e, h, ite_mono (w _ _) (w' _ _ _ _) q⟩⟩
theorem heardSlot_ok {z : Str} (h : En.ok z) (slot : List Str) : En.ok (heardSlot z slot) := S_ok fun k hk => mem_ok h k (List.mem_filter.mp hk).1
theorem v_heard_list (b : B) (ds g Q X) (h : SP_heard_list b ds g Q X) : VC (t_heard_list (b := b) SP_heard_slots) ["score", "bells", "verses", "slots", "size", "heard", "verse", "place", "slot"] ds g Q X := by
  obtain ⟨sc, z, v, rfl, ⟨hz, hl, hs, hv⟩, h⟩ := h
  have hb := sizeLine_big
  refine ⟨_, rfl, _, rfl, sc, z, rfl, ⟨hz, hl, hs⟩, ite_mono (fun h => ?_) id h⟩
  generalize hsl : sc.map (heardSlot z) = slots at h ⊢
  have hok : ∀ y ∈ slots, En.ok y := fun y hy => by
    subst hsl
    obtain ⟨s, _, rfl⟩ := List.mem_map.mp hy
    exact heardSlot_ok hz s
  have hlen : slots.length ≤ 1000 := by rw [← hsl, List.length_map]; exact hs
  refine ⟨_, rfl, by simp, ?_⟩
  refine ⟨_, rfl, v, rfl, ⟨by omega, by omega⟩, ?_⟩
  have hfin := heardL_len slots v
  have hfin2 : v * slots.length ≤ 100 * 1000 := Nat.mul_le_mul hv hlen
  simp only [Int.toNat_natCast]
  refine forL_xs (fun r => D.int ((0 : Int) + (r : Nat))) (fun rest ρ g0 => g0 = g ∧ ∃ (acc : Heard) (x6 x7 x8 : Option D), ρ = [some (En.d sc), some (.str z), some (.int v), some (En.d slots), some (.int slots.length), some (.lst (acc.map En.d)), x6, x7, x8] ∧ acc ++ rest.flatMap (verseL slots) = heardL slots v) _ _ _ (fun r rest ρ g0 K hK ⟨eg, acc, x6, x7, x8, eρ, hacc⟩ => ?_) (fun ρ g0 ⟨eg, acc, x6, x7, x8, eρ, hacc⟩ => ?_) ⟨rfl, [], none, none, none, ?_, rfl⟩
  · subst eg eρ
    refine ⟨_, rfl, ?_⟩
    show forL _ _ _ _ (enumD (slots.map En.d)) _ _
    rw [enumD_map]
    refine forL_xs (fun q : Str × Nat => D.tup [.int (q.2 : Nat), .str q.1]) (fun rest2 ρ g1 => g1 = g0 ∧ ∃ (acc2 : Heard) (x7 x8 : Option D), ρ = [some (En.d sc), some (.str z), some (.int v), some (En.d slots), some (.int slots.length), some (.lst (acc2.map En.d)), some (.int ((0 : Int) + (r : Nat))), x7, x8] ∧
      (∀ q ∈ rest2, En.ok q.1) ∧ acc2 ++ (rest2.filterMap fun q => if q.1 = ("" : Str) then none else some ((r : Int) * (slots.length : Nat) + (q.2 : Nat), q.1)) ++ rest.flatMap (verseL slots) = heardL slots v) _ _ _ (fun q rest2 ρ g1 K2 hK2 ⟨eg, acc2, x7, x8, eρ, hq, hacc2⟩ => ?_) (fun ρ g1 ⟨eg, acc2, x7, x8, eρ, hq, hacc2⟩ => ?_) ⟨rfl, acc, x7, x8, rfl, fun q hq => hok _ (zipIdx_mem hq), ?_⟩
    · subst eg eρ
      refine ⟨_, rfl, rfl, _, _, rfl, _, _, rfl, rfl, ?_⟩
      refine ⟨_, rfl, ?_⟩
      dsimp only [tCon]
      refine (oNe_en q.1 "" (hq q (List.mem_cons_self ..)) (show PyData.strOk ("" : Str) = true by decide +kernel) (by decide) ⟨_, rfl, ?_⟩)
      by_cases he : q.1 = ("" : Str)
      · rw [if_neg (by simp [he])]
        refine hK2 _ _ ⟨rfl, acc2, _, _, rfl, fun q hq2 => hq q (List.mem_cons_of_mem _ hq2), ?_⟩
        simpa [he] using hacc2
      · rw [if_pos (by simp [he])]
        refine ⟨⟨_, rfl⟩, _, rfl, _, rfl, ⟨.inl (.inr ⟨by omega, by omega⟩), _, rfl, _, rfl, rfl, by simp; omega, _, rfl, ?_, hK2 _ _ ⟨rfl, acc2 ++ [((r : Int) * (slots.length : Nat) + (q.2 : Nat), q.1)], some (.int (q.2 : Nat)), some (.str q.1), ?_, fun q hq2 => hq q (List.mem_cons_of_mem _ hq2), ?_⟩⟩⟩
        · have := congrArg List.length hacc2
          simp only [List.length_append, List.length_map] at this ⊢
          omega
        · simp [En.d_prod, En.d_int, En.d_str]
        · simpa [he] using hacc2
    · subst eg eρ
      refine hK _ _ ⟨rfl, acc2, _, _, _, rfl, ?_⟩
      simpa using hacc2
    · rw [List.flatMap_cons] at hacc
      rw [List.append_assoc]
      exact hacc
  · subst eg eρ
    refine ⟨_, rfl, ?_⟩
    rw [List.flatMap_nil, List.append_nil] at hacc
    subst hacc
    exact h
  · simp only [List.length_map]
    rfl
end TL
set_option Elab.async false
set_option linter.all false
set_option maxRecDepth 100000
/-! VA3: good slots, scores, carillons. -/
namespace TL
open PySem PySem.Spec PyProof.Rows L2
theorem atI_nat {α : Type} {xs : List α} {i : Nat} {a : α} (h : xs[i]? = some a) : atI xs (i : Int) = some a := by
  have hi : i < xs.length := (List.getElem?_eq_some_iff.mp h).1
  unfold atI ixN
  rw [if_pos (by omega), if_pos (by omega)]
  simpa using h
theorem atI_of {α : Type} {xs : List α} {j : Int} {i : Nat} {a : α} (hj : j = (i : Int)) (h : xs[i]? = some a) : atI xs j = some a := by rw [hj]; exact atI_nat h
theorem if1 {k : Bool} {p q : Prop} (h : k = true) (x : p) : if k = true then p else q := by rw [if_pos h]; exact x
theorem if0 {k : Bool} {p q : Prop} (h : k = false) (x : q) : if k = true then p else q := by rw [if_neg (by rw [h]; exact Bool.false_ne_true)]; exact x
abbrev marks : List Str := ["!a", "!b", "!c", "!d", "!e", "!f", "a", "b", "c", "d", "e", "f"]
def ltS (x y : Str) : Bool := decide (x.cps.toList < y.cps.toList)
/-- a good slot -/
def GoodSlot (slot : List Str) : Prop := (∀ x ∈ slot, x ∈ marks) ∧ ∀ i x y, slot[i]? = some x → slot[i + 1]? = some y → ltS x y = true
def SP_is_good_slot : TSp := fun b ds g Q E => ∃ slot : List Str, ds = [En.d slot] ∧ GoodSlot slot ∧ Q (.bl true) g
theorem ok_is_good_slot : SpOk 1 SP_is_good_slot := ⟨fun b ds g Q E ⟨s, e, _⟩ => by rw [e]; rfl, fun b ds g Q Q' E E' w w' ⟨s, e, h, q⟩ => ⟨s, e, h, w _ _ q⟩⟩
theorem drop_cons {α : Type} {l : List α} {i : Nat} {x : α} {r : List α} (h : l.drop i = x :: r) : l[i]? = some x ∧ r = l.drop (i + 1) := by
  have hi : i < l.length := by
    by_cases q : i < l.length
    · exact q
    · rw [List.drop_eq_nil_of_le (by omega)] at h; cases h
  rw [List.drop_eq_getElem_cons hi] at h
  injection h with h1 h2
  exact ⟨by simp [hi, h1], h2.symm⟩
theorem v_is_good_slot (b : B) (ds g Q X) (h : SP_is_good_slot b ds g Q X) : VC (t_is_good_slot (b := b)) ["slot", "index", "text"] ds g Q X := by
  obtain ⟨slot, rfl, ⟨hm, hc⟩, h⟩ := h
  refine ⟨_, rfl, ?_⟩
  show forL _ _ _ _ (enumD (slot.map D.str)) _ _
  rw [enumD_map]
  refine forL_xs (fun q : Str × Nat => D.tup [.int (q.2 : Nat), .str q.1]) (fun rest ρ g1 => g1 = g ∧ ∃ (x y : Option D), ρ = [some (En.d slot), x, y] ∧ ∃ i, rest = slot.zipIdx.drop i) _ _ _ (fun q rest ρ g1 K hK ⟨eg, x, y, eρ, i, hr⟩ => ?_) (fun ρ g1 ⟨eg, x, y, eρ, _⟩ => ?_) ⟨rfl, none, none, rfl, 0, rfl⟩
  · subst eg eρ
    obtain ⟨h1, h2⟩ := drop_cons hr.symm
    obtain ⟨z, k⟩ := q
    have hz : slot[k]? = some z ∧ k = i := by
      rw [List.getElem?_zipIdx] at h1
      cases e : slot[i]? with
      | none => rw [e] at h1; cases h1
      | some w => rw [e] at h1; simp at h1; obtain ⟨rfl, rfl⟩ := h1; exact ⟨e, rfl⟩
    refine ⟨_, rfl, rfl, _, _, rfl, _, _, rfl, rfl, ?_⟩
    refine ⟨_, rfl, z, rfl, ?_⟩
    have hin : z ∈ marks := hm z (List.mem_of_getElem? hz.1)
    refine if0 (by show (!decide (z ∈ marks)) = false; rw [decide_eq_true hin]; rfl) ?_
    refine ⟨_, rfl, _, rfl, ?_⟩
    have fin : K [some (En.d slot), some (.int (k : Nat)), some (.str z)] g1 := hK _ _ ⟨rfl, _, _, rfl, i + 1, h2⟩
    cases k with
    | zero =>
      exact if0 (by simp) (if0 rfl fin)
    | succ k =>
      refine if1 (by simp) ?_
      have hk : ∃ x, slot[k]? = some x := ⟨slot[k]'(by have := (List.getElem?_eq_some_iff.mp hz.1).1; omega), by simp⟩
      obtain ⟨x', hx'⟩ := hk
      refine ⟨_, rfl, _, rfl, .str x', atI_of (i := k) (by omega) (by simp [hx']; rfl), _, rfl, _, rfl, ?_⟩
      have := hc k x' z hx' hz.1
      unfold ltS at this
      refine if0 (by rw [this]; rfl) fin
  · subst eg eρ
    exact h
abbrev SeqD (xs : List D) (d : D) : Prop := d = .tup xs ∨ d = .lst xs
theorem oLen_seq {xs : List D} {d : D} {Q : D → Prop} (h : SeqD xs d) (q : Q (.int xs.length)) : oLen [d] Q := by rcases h with rfl | rfl <;> exact q
theorem oTuple_seq {xs : List D} {d : D} {Q : D → Prop} (h : SeqD xs d) (q : Q (.tup xs)) : oTuple [d] Q := by rcases h with rfl | rfl <;> exact q
theorem oIter_seq {xs : List D} {d : D} {Q : List D → Prop} (h : SeqD xs d) (q : Q xs) : oIter d Q := by rcases h with rfl | rfl <;> exact q
theorem oIterE_seq {xs : List D} {d : D} {Q : List D → Prop} (h : SeqD xs d) (q : Q (enumD xs)) : oIterE d Q := by rcases h with rfl | rfl <;> exact q
/-- a good score -/
def GoodScore (sc : Score) : Prop := 1 ≤ sc.length ∧ sc.length ≤ 24 ∧ ∀ s ∈ sc, GoodSlot s
def SP_check_score : TSp := fun b ds g Q E => ∃ sc : Score, ds = [En.d sc] ∧ GoodScore sc ∧ Q .non g
theorem ok_check_score : SpOk 1 SP_check_score := ⟨fun b ds g Q E ⟨s, e, _⟩ => by rw [e]; rfl, fun b ds g Q Q' E E' w w' ⟨s, e, h, q⟩ => ⟨s, e, h, w _ _ q⟩⟩
theorem v_check_score (b : B) (ds g Q X) (h : SP_check_score b ds g Q X) : VC (t_check_score (b := b) SP_is_good_slot) ["score", "size", "place", "slot"] ds g Q X := by
  obtain ⟨sc, rfl, ⟨h1, h2, h3⟩, h⟩ := h
  refine ⟨_, rfl, _, rfl, _, rfl, ?_⟩
  refine if0 (by simp; omega) ?_
  refine ⟨_, rfl, _, rfl, ?_⟩
  refine if0 (by simp; omega) ?_
  refine ⟨_, rfl, ?_⟩
  show forL _ _ _ _ (enumD (sc.map En.d)) _ _
  rw [enumD_map]
  refine forL_xs (fun q : List Str × Nat => D.tup [.int (q.2 : Nat), En.d q.1]) (fun rest ρ g1 => g1 = g ∧ (∀ q ∈ rest, GoodSlot q.1) ∧ ∃ (s x y : Option D), ρ = [some (En.d sc), s, x, y]) _ _ _ (fun q rest ρ g1 K hK ⟨eg, hq, s, x, y, eρ⟩ => ?_) (fun ρ g1 ⟨eg, _, s, x, y, eρ⟩ => ?_) ⟨rfl, fun q hq => h3 _ (zipIdx_mem hq), _, _, _, rfl⟩
  · subst eg eρ
    refine ⟨_, rfl, rfl, _, _, rfl, _, _, rfl, rfl, ?_⟩
    refine ⟨_, rfl, q.1, rfl, hq q (List.mem_cons_self ..), _, rfl, ?_⟩
    refine if0 rfl ?_
    exact hK _ _ ⟨rfl, fun q hq2 => hq q (List.mem_cons_of_mem _ hq2), _, _, _, rfl⟩
  · subst eg
    exact h
def SP_is_good_score : TSp := fun b ds g Q E => ∃ sc : Score, ds = [En.d sc] ∧ GoodScore sc ∧ Q (.bl true) g
theorem ok_is_good_score : SpOk 1 SP_is_good_score := ⟨fun b ds g Q E ⟨s, e, _⟩ => by rw [e]; rfl, fun b ds g Q Q' E E' w w' ⟨s, e, h, q⟩ => ⟨s, e, h, w _ _ q⟩⟩
theorem v_is_good_score (b : B) (ds g Q X) (h : SP_is_good_score b ds g Q X) : VC (t_is_good_score (b := b) SP_check_score) ["score"] ds g Q X := by
  obtain ⟨sc, rfl, h1, h⟩ := h
  exact ⟨_, rfl, sc, rfl, h1, h⟩
/-- the scores of a carillon -/
def GoodScores (scs : List Score) : Prop := 1 ≤ scs.length ∧ scs.length ≤ 4 ∧ (∀ s ∈ scs, GoodScore s) ∧ ∃ n, ∀ s ∈ scs, s.length = n
def SP_are_good_scores : TSp := fun b ds g Q E => ∃ scs : List Score, ds = [En.d scs] ∧ GoodScores scs ∧ Q (.bl true) g
theorem ok_are_good_scores : SpOk 1 SP_are_good_scores := ⟨fun b ds g Q E ⟨s, e, _⟩ => by rw [e]; rfl, fun b ds g Q Q' E E' w w' ⟨s, e, h, q⟩ => ⟨s, e, h, w _ _ q⟩⟩
theorem all_true {α : Type} (xs : List α) : (xs.map fun _ => true).all id = true := by induction xs <;> simp_all
theorem v_are_good_scores (b : B) (ds g Q X) (h : SP_are_good_scores b ds g Q X) : VC (t_are_good_scores (b := b) SP_is_good_score) ["scores", "score"] ds g Q X := by
  obtain ⟨scs, rfl, ⟨h1, h2, h3, n, h4⟩, h⟩ := h
  have hb := sizeLine_big
  refine ⟨_, rfl, _, rfl, ?_⟩
  have e1 : decide ((1 : Int) ≤ ((scs.map (En.d (α := Score))).length : Nat)) = true := by simp; omega
  refine if1 e1 ?_
  have e2 : decide ((((scs.map (En.d (α := Score))).length : Nat) : Int) ≤ 4) = true := by simp; omega
  refine ⟨_, rfl, ?_⟩
  refine if0 (by rw [e2]; rfl) ?_
  refine ⟨_, rfl, by simp; omega, ?_⟩
  refine lcL_map En.d (fun _ => D.bl true) scs [] (fun s hs K1 q => ⟨_, rfl, s, rfl, h3 s hs, q⟩) ?_
  refine ⟨scs.map fun _ => true, by simp, _, rfl, ?_⟩
  refine if0 (by rw [all_true]; rfl) ?_
  refine ⟨_, rfl, by simp; omega, ?_⟩
  refine lcL_map En.d (fun _ => D.bl true) scs [] (fun s hs K1 q => ⟨_, rfl, _, rfl, ?_⟩) ⟨scs.map fun _ => true, by simp, ?_⟩
  · obtain ⟨s0, hs0⟩ : ∃ s0, scs[0]? = some s0 := ⟨scs[0]'(by omega), by simp⟩
    refine ⟨_, atI_of (i := 0) rfl (by rw [List.getElem?_map, hs0]; rfl), ?_⟩
    have e3 := h4 s hs
    have e4 := h4 s0 (List.mem_of_getElem? hs0)
    show oEq (D.int (((s.map (En.d (α := List Str))).length : Nat) : Int)) (D.int (((s0.map (En.d (α := List Str))).length : Nat) : Int)) (fun d => K1 d g)
    refine (oEq_en (((s.map (En.d (α := List Str))).length : Nat) : Int) _ trivial trivial (by decide) ?_)
    rw [List.length_map, List.length_map, e3, e4]
    simpa using q
  · rw [all_true]
    exact h
end TL
set_option Elab.async false
set_option linter.all false
set_option maxRecDepth 100000
/-! VA4: entries, changers, carillons. -/
namespace TL
open PySem PySem.Spec PyProof.Rows L2
/-- an entry: follower, tune, verses -/
structure Ent where
  f : Int
  t : Int
  v : Int
deriving DecidableEq
instance : En Ent := ⟨fun e => .tup [.int e.f, .int e.t, .int e.v], fun _ => True, 1, fun _ => rfl, fun e _ => by simp [D.py, pys, PyData.canLay0, PyData.canLayAll0], fun e => by simp [D.py, pys, PyData.depth, PyData.depthAll], fun a b => by
  cases a; cases b; simp [D.py, pys, PyData.eqv, PyData.eqvAll, and_assoc], fun _ => rfl⟩
theorem En.d_ent (e : Ent) : En.d e = D.tup [.int e.f, .int e.t, .int e.v] := rfl
abbrev States := List (List Ent)
structure Chg where
  letters : Str
  states : States
structure Car where
  chg : Chg
  scores : List Score
def Chg.d (c : Chg) : D := .obj "Changer" ["letters", "states"] [.str c.letters, En.d c.states]
def Car.size (c : Car) : Nat := (c.scores.getD 0 []).length
def Car.d (c : Car) : D := .obj "Carillon" ["changer", "scores", "size"] [c.chg.d, En.d c.scores, .int (c.size : Nat)]
def GoodEnt (n : Nat) (e : Ent) : Prop := 0 ≤ e.f ∧ e.f < n ∧ ((e.t = -1 ∧ e.v = 0) ∨ (0 ≤ e.t ∧ e.t ≤ 3 ∧ 1 ≤ e.v ∧ e.v ≤ 3))
def SP_is_entry : TSp := fun b ds g Q E => ∃ (e : Ent) (n : Nat), ds = [En.d e, .int n] ∧ GoodEnt n e ∧ Q (.bl true) g
theorem ok_is_entry : SpOk 2 SP_is_entry := ⟨fun b ds g Q E ⟨s, n, e, _⟩ => by rw [e]; rfl, fun b ds g Q Q' E E' w w' ⟨s, n, e, h, q⟩ => ⟨s, n, e, h, w _ _ q⟩⟩
theorem v_is_entry (b : B) (ds g Q X) (h : SP_is_entry b ds g Q X) : VC (t_is_entry (b := b)) ["entry", "count", "follower", "tune", "verses"] ds g Q X := by
  obtain ⟨e, n, rfl, ⟨h1, h2, h3⟩, h⟩ := h
  refine ⟨_, rfl, rfl, _, rfl, rfl, _, _, rfl, _, _, rfl, _, _, rfl, rfl, ?_⟩
  refine ⟨_, rfl, _, rfl, ?_⟩
  refine if1 (by simpa using h1) ⟨_, rfl, _, rfl, ?_⟩
  refine if0 (by simpa using h2) ⟨_, rfl, ?_⟩
  dsimp only [tNegT, tCon, oNeg]
  refine oEq_en e.t (-1) trivial trivial (by decide) ⟨_, rfl, ?_⟩
  rcases h3 with ⟨h4, h5⟩ | ⟨h4, h5, h6, h7⟩
  · refine if1 (by simpa using h4) ⟨_, rfl, ?_⟩
    dsimp only [tCon]
    refine oEq_en e.v 0 trivial trivial (by decide) ?_
    rw [h5]
    exact h
  · refine if0 (by simp; omega) ?_
    refine ⟨_, rfl, _, rfl, ?_⟩
    refine if1 (by simpa using h4) ?_
    refine ⟨_, rfl, ?_⟩
    refine if1 (by simpa using h5) ?_
    refine ⟨_, rfl, _, rfl, ?_⟩
    refine if1 (by simpa using h6) ?_
    show Q (.bl (decide (e.v ≤ 3))) g
    rw [decide_eq_true h7]
    exact h
def SP_names_missing_tune : TSp := fun b ds g Q E => ∃ (c : Chg) (n : Nat), ds = [c.d, .int n] ∧ ((∀ r ∈ c.states, ∀ e ∈ r, e.t < n) ∧ ∀ r ∈ c.states, r.length ≤ 1000) ∧ Q (.bl false) g
theorem ok_names_missing_tune : SpOk 2 SP_names_missing_tune := ⟨fun b ds g Q E ⟨s, n, e, _⟩ => by rw [e]; rfl, fun b ds g Q Q' E E' w w' ⟨s, n, e, h, q⟩ => ⟨s, n, e, h, w _ _ q⟩⟩
theorem any_false {α : Type} (xs : List α) : (xs.map fun _ => false).any id = false := by induction xs <;> simp_all
theorem v_names_missing_tune (b : B) (ds g Q X) (h : SP_names_missing_tune b ds g Q X) : VC (t_names_missing_tune (b := b)) ["changer", "count", "entries", "entry"] ds g Q X := by
  obtain ⟨c, n, rfl, ⟨h1, h2⟩, h⟩ := h
  have hb := sizeLine_big
  refine ⟨_, rfl, _, ⟨List.mem_cons_self .., rfl⟩, ?_⟩
  refine forL_xs En.d (fun (rest : List (List Ent)) ρ g1 => g1 = g ∧ (∀ r ∈ rest, (∀ e ∈ r, e.t < n) ∧ r.length ≤ 1000) ∧ ∃ (x y : Option D), ρ = [some c.d, some (.int n), x, y]) c.states _ _ (fun r rest ρ g1 K hK ⟨eg, hr, x, y, eρ⟩ => ?_) (fun ρ g1 ⟨eg, _, x, y, eρ⟩ => ?_) ⟨rfl, fun r hr => ⟨h1 r hr, h2 r hr⟩, _, _, rfl⟩
  · subst eg eρ
    obtain ⟨h3, h4⟩ := hr r (List.mem_cons_self ..)
    refine ⟨_, rfl, by simp; omega, ?_⟩
    refine lcL_map En.d (fun _ => D.bl false) r [] (fun e he K1 q => ⟨_, rfl, .int e.t, rfl, _, rfl, ?_⟩) ⟨r.map fun _ => false, by simp, _, rfl, ?_⟩
    · show K1 (.bl (decide (((n : Nat) : Int) ≤ e.t))) g1
      rw [decide_eq_false (by have := h3 e he; omega)]
      exact q
    · refine if0 (any_false _) ?_
      exact hK _ _ ⟨rfl, fun r hr2 => hr r (List.mem_cons_of_mem _ hr2), _, _, rfl⟩
  · subst eg
    exact h
/-- Carillon(changer, scores) -/
def SP_Carillon : TSp := fun b ds g Q E => ∃ (c : Car) (d : D), ds = [c.chg.d, d] ∧ SeqD (c.scores.map En.d) d ∧ (GoodScores c.scores ∧ (∀ r ∈ c.chg.states, ∀ e ∈ r, e.t < c.scores.length) ∧ ∀ r ∈ c.chg.states, r.length ≤ 1000) ∧ Q c.d g
theorem ok_Carillon : SpOk 2 SP_Carillon := ⟨fun b ds g Q E ⟨c, d, e, _⟩ => by rw [e]; rfl, fun b ds g Q Q' E E' w w' ⟨c, d, e, h, h2, q⟩ => ⟨c, d, e, h, h2, w _ _ q⟩⟩
theorem v_Carillon (x : Addr) (b : B) (ds g Q X) (h : SP_Carillon b ds g Q X) : VCI (t_Carillon_init (b := b) SP_are_good_scores SP_names_missing_tune) ["self", "changer", "scores", "kept"] x "Carillon" ds g Q X := by
  obtain ⟨c, d, rfl, hd, ⟨h1, h2, h3⟩, h⟩ := h
  refine ⟨_, rfl, oTuple_seq hd ?_⟩
  refine ⟨_, rfl, c.scores, rfl, h1, _, rfl, if0 rfl ?_⟩
  refine ⟨_, rfl, _, rfl, c.chg, c.scores.length, by simp, ⟨h2, h3⟩, _, rfl, if0 rfl ?_⟩
  refine ⟨_, rfl, rfl, x, _, _, _, rfl, List.mem_cons_self .., Nat.le_of_ble_eq_true rfl, ?_⟩
  refine ⟨_, rfl, rfl, x, _, _, _, rfl, List.mem_cons_self .., Nat.le_of_ble_eq_true rfl, ?_⟩
  obtain ⟨s0, hs0⟩ : ∃ s0, c.scores[0]? = some s0 := ⟨c.scores[0]'(by have := h1.1; omega), by simp⟩
  refine ⟨_, rfl, _, atI_of (i := 0) rfl (by rw [List.getElem?_map, hs0]; rfl), ?_⟩
  refine ⟨x, _, _, _, rfl, List.mem_cons_self .., Nat.le_of_ble_eq_true rfl, _, _, rfl, ?_⟩
  have e : ((s0.map (En.d (α := List Str))).length : Nat) = c.size := by
    unfold Car.size
    rw [List.length_map, List.getD_eq_getElem?_getD, hs0]; rfl
  have key : Q (.obj "Carillon" ["changer", "scores", "size"] [c.chg.d, En.d c.scores, .int (((s0.map (En.d (α := List Str))).length : Nat) : Int)]) g := by rw [e]; exact h
  exact key
def SP_Changer_len : TSp := fun b ds g Q E => ∃ c : Chg, ds = [c.d] ∧ Q (.int c.states.length) g
theorem ok_Changer_len : SpOk 1 SP_Changer_len := ⟨fun b ds g Q E ⟨c, e, _⟩ => by rw [e]; rfl, fun b ds g Q Q' E E' w w' ⟨c, e, q⟩ => ⟨c, e, w _ _ q⟩⟩
theorem v_Changer_len (b : B) (ds g Q X) (h : SP_Changer_len b ds g Q X) : VC (t_Changer_len (b := b)) ["self"] ds g Q X := by
  obtain ⟨c, rfl, h⟩ := h
  refine ⟨_, rfl, _, ⟨List.mem_cons_self .., rfl⟩, ?_⟩
  have e : ((c.states.map (En.d (α := List Ent))).length : Nat) = c.states.length := by simp
  show Q (.int (((c.states.map (En.d (α := List Ent))).length : Nat) : Int)) g
  rw [e]
  exact h
end TL
set_option Elab.async false
set_option linter.all false
set_option maxRecDepth 100000
/-! VA5: the rows of answers. -/
namespace TL
open PySem PySem.Spec PyProof.Rows L2
abbrev Hour := Heard × Int
abbrev HRows := List (List Hour)
/-- a right carillon -/
structure GoodCar (c : Car) : Prop where
  sc : GoodScores c.scores
  st : 1 ≤ c.chg.states.length ∧ c.chg.states.length ≤ 6
  lt : 1 ≤ c.chg.letters.cps.toList.length ∧ c.chg.letters.cps.toList.length ≤ 3
  row : ∀ r ∈ c.chg.states, r.length = c.chg.letters.cps.toList.length
  ent : ∀ r ∈ c.chg.states, ∀ e ∈ r, GoodEnt c.chg.states.length e ∧ e.t < c.scores.length
  ok : En.ok c.chg.letters
structure GoodB (z : Str) : Prop where
  ok : En.ok z
  good : okB z = true
  len : z.cps.toList.length ≤ 1000
def hourL (c : Car) (z : Str) (e : Ent) : Heard := if e.t = -1 then [] else heardL ((c.scores.getD e.t.toNat []).map (heardSlot z)) e.v.toNat
def SP_hour_list : TSp := fun b ds g Q E => ∃ (c : Car) (z : Str) (e : Ent), ds = [c.d, .str z, .int e.t, .int e.v] ∧ (GoodCar c ∧ GoodB z ∧ (∃ n, GoodEnt n e) ∧ e.t < c.scores.length) ∧ Q (En.d (hourL c z e)) g
theorem ok_hour_list : SpOk 4 SP_hour_list := ⟨fun b ds g Q E ⟨c, z, n, e, _⟩ => by rw [e]; rfl, fun b ds g Q Q' E E' w w' ⟨c, z, n, e, h, q⟩ => ⟨c, z, n, e, h, w _ _ q⟩⟩
theorem v_hour_list (b : B) (ds g Q X) (h : SP_hour_list b ds g Q X) : VC (t_hour_list (b := b) SP_heard_list) ["carillon", "bells", "tune", "verses"] ds g Q X := by
  obtain ⟨c, z, e, rfl, ⟨hc, hz, ⟨n, _, _, he⟩, ht⟩, h⟩ := h
  refine ⟨_, rfl, ?_⟩
  dsimp only [tNegT, tCon, oNeg]
  refine oEq_en e.t (-1) trivial trivial (by decide) ⟨_, rfl, ?_⟩
  unfold hourL at h
  by_cases h1 : e.t = -1
  · rw [if_pos h1] at h
    exact if1 (by simpa using h1) ⟨Nat.zero_le _, h⟩
  · rw [if_neg h1] at h
    refine if0 (by simpa using h1) ?_
    obtain ⟨h2, h3, h4, h5⟩ := he.resolve_left fun z => h1 z.1
    have hi : e.t.toNat < c.scores.length := by omega
    refine ⟨_, rfl, _, ⟨List.mem_cons_self .., rfl⟩, _, rfl, En.d (c.scores[e.t.toNat]), atI_of (i := e.t.toNat) (by omega) (by simp [hi]), _, rfl, _, rfl, ?_⟩
    refine ⟨c.scores[e.t.toNat], z, e.v.toNat, ?_, ⟨hz.ok, hz.len, ?_, by omega⟩, ?_⟩
    · rw [show ((e.v.toNat : Nat) : Int) = e.v by omega]; rfl
    · have := (hc.sc.2.2.1 _ (List.getElem_mem hi)).2.1
      omega
    · rw [if_pos hz.good]
      rw [List.getD_eq_getElem?_getD, List.getElem?_eq_getElem hi] at h
      exact h
def rowL (c : Car) (z : Str) (r : List Ent) : List Hour := r.map fun e => (hourL c z e, e.f)
def rowsL (c : Car) (z : Str) : HRows := c.chg.states.map (rowL c z)
def SP_answer_rows : TSp := fun b ds g Q E => ∃ (c : Car) (z : Str), ds = [c.d, .str z] ∧ (GoodCar c ∧ GoodB z) ∧ Q (En.d (rowsL c z)) g
theorem ok_answer_rows : SpOk 2 SP_answer_rows := ⟨fun b ds g Q E ⟨c, z, e, _⟩ => by rw [e]; rfl, fun b ds g Q Q' E E' w w' ⟨c, z, e, h, q⟩ => ⟨c, z, e, h, w _ _ q⟩⟩
theorem v_answer_rows (b : B) (ds g Q X) (h : SP_answer_rows b ds g Q X) : VC (t_answer_rows (b := b) SP_hour_list) ["carillon", "bells", "rows", "entries", "row", "entry"] ds g Q X := by
  obtain ⟨c, z, rfl, ⟨hc, hz⟩, h⟩ := h
  have hb := sizeLine_big
  refine ⟨Nat.zero_le _, ?_⟩
  refine ⟨_, rfl, _, ⟨List.mem_cons_self .., rfl⟩, _, ⟨List.mem_cons_self .., rfl⟩, ?_⟩
  refine forL_xs En.d (fun (rest : List (List Ent)) ρ g1 => g1 = g ∧ (∀ r ∈ rest, r ∈ c.chg.states) ∧ ∃ (acc : HRows) (x3 x4 x5 : Option D), ρ = [some c.d, some (.str z), some (.lst (acc.map En.d)), x3, x4, x5] ∧ acc ++ rest.map (rowL c z) = rowsL c z) c.chg.states _ _ (fun r rest ρ g1 K hK ⟨eg, hr, acc, x3, x4, x5, eρ, ha⟩ => ?_) (fun ρ g1 ⟨eg, _, acc, x3, x4, x5, eρ, ha⟩ => ?_) ⟨rfl, fun r hr => hr, [], _, _, _, rfl, rfl⟩
  · subst eg eρ
    have hrs := hr r (List.mem_cons_self ..)
    have hlen : r.length ≤ 3 := by rw [hc.row r hrs]; exact hc.lt.2
    refine ⟨_, rfl, by simp; omega, ?_⟩
    refine lcL_map En.d (fun e => En.d (α := Hour) (hourL c z e, e.f)) r [] (fun e he K1 q => ?_) ?_
    · refine ⟨_, rfl, _, rfl, _, rfl, .int e.t, rfl, _, rfl, .int e.v, rfl, ?_⟩
      have ge := hc.ent r hrs e he
      exact ⟨c, z, e, rfl, ⟨hc, hz, ⟨_, ge.1⟩, ge.2⟩, _, rfl, .int e.f, rfl, Nat.le_trans (Nat.le_of_ble_eq_true rfl : 2 ≤ 1000000) hb, q⟩
    · refine ⟨⟨_, rfl⟩, _, rfl, _, rfl, ?_, hK _ _ ⟨rfl, fun r hr2 => hr r (List.mem_cons_of_mem _ hr2), acc ++ [rowL c z r], some (En.d r), some (.lst ((rowL c z r).map En.d)), x5, ?_, by simpa using ha⟩⟩
      · have := congrArg List.length ha
        simp [rowsL] at this ⊢
        have := hc.st.2
        omega
      · simp [rowL, En.d_list, List.map_map, Function.comp_def]
  · subst eg eρ
    rw [List.map_nil, List.append_nil] at ha
    subst ha
    exact ⟨_, rfl, h⟩
def SP_check_pair : TSp := fun b ds g Q E => ∃ (c1 c2 : Car) (z : Str), ds = [c1.d, c2.d, .str z] ∧ (En.ok z ∧ En.ok c1.chg.letters ∧ En.ok c2.chg.letters) ∧
  (if okB z = true then (if decide (c1.chg.letters = c2.chg.letters) = true then (if decide (c1.size = c2.size) = true then Q .non g else E g "Unlike" ["field"] [.str "size"]) else E g "Unlike" ["field"] [.str "letters"]) else E g "BadBells" ["text"] [.str z])
theorem ok_check_pair : SpOk 3 SP_check_pair := ⟨fun b ds g Q E ⟨c, c2, z, e, _⟩ => by rw [e]; rfl, fun b ds g Q Q' E E' w w' ⟨c, c2, z, e, h, q⟩ => ⟨c, c2, z, e, h, ite_mono (ite_mono (ite_mono (w _ _) (w' _ _ _ _)) (w' _ _ _ _)) (w' _ _ _ _) q⟩⟩
theorem v_check_pair (b : B) (ds g Q X) (h : SP_check_pair b ds g Q X) : VC (t_check_pair (b := b) SP_check_bells) ["one", "two", "bells"] ds g Q X := by
  obtain ⟨c1, c2, z, rfl, ⟨h0, h1, h2⟩, h⟩ := h
  refine ⟨_, rfl, z, rfl, h0, ite_mono (fun h => ?_) id h⟩
  refine ⟨_, rfl, _, ⟨List.mem_cons_self .., rfl⟩, _, ⟨List.mem_cons_self .., rfl⟩, _, rfl, _, ⟨List.mem_cons_self .., rfl⟩, _, ⟨List.mem_cons_self .., rfl⟩, ?_⟩
  refine oNe_en c1.chg.letters c2.chg.letters h1 h2 (by decide) ⟨_, rfl, ?_⟩
  cases hd : decide (c1.chg.letters = c2.chg.letters) with
  | false => rw [hd, if_neg Bool.false_ne_true] at h; exact if1 rfl ⟨_, rfl, h⟩
  | true =>
    rw [hd, if_pos rfl] at h
    refine if0 rfl ?_
    refine ⟨_, rfl, _, ⟨List.mem_cons_self .., rfl⟩, _, rfl, _, ⟨List.mem_cons_self .., rfl⟩, ?_⟩
    refine oNe_en ((c1.size : Nat) : Int) ((c2.size : Nat) : Int) trivial trivial (by decide) ⟨_, rfl, ?_⟩
    by_cases he : c1.size = c2.size
    · rw [decide_eq_true he, if_pos rfl] at h
      exact if0 (by rw [decide_eq_true (show ((c1.size : Nat) : Int) = ((c2.size : Nat) : Int) by omega)]; rfl) h
    · rw [decide_eq_false he, if_neg Bool.false_ne_true] at h
      exact if1 (by rw [decide_eq_false (show ¬ ((c1.size : Nat) : Int) = ((c2.size : Nat) : Int) by omega)]; rfl) ⟨_, rfl, h⟩
end TL
set_option Elab.async false
set_option linter.all false
set_option maxRecDepth 100000
/-! VA6: joint rows, keys, first differences. -/
namespace TL
open PySem PySem.Spec PyProof.Rows L2
def shiftR (n : Nat) (r : List Hour) : List Hour := r.map fun h => (h.1, h.2 + (n : Nat))
def jointL (c1 c2 : Car) (z : Str) : HRows := rowsL c1 z ++ (rowsL c2 z).map (shiftR c1.chg.states.length)
def SP_joint_rows : TSp := fun b ds g Q E => ∃ (c1 c2 : Car) (z : Str), ds = [c1.d, c2.d, .str z] ∧ (GoodCar c1 ∧ GoodCar c2 ∧ GoodB z) ∧ Q (En.d (jointL c1 c2 z)) g
theorem ok_joint_rows : SpOk 3 SP_joint_rows := ⟨fun b ds g Q E ⟨c, c2, z, e, _⟩ => by rw [e]; rfl, fun b ds g Q Q' E E' w w' ⟨c, c2, z, e, h, q⟩ => ⟨c, c2, z, e, h, w _ _ q⟩⟩
theorem v_joint_rows (b : B) (ds g Q X) (h : SP_joint_rows b ds g Q X) : VC (t_joint_rows (b := b) SP_Changer_len SP_answer_rows) ["one", "two", "bells", "offset", "rows", "row", "hour"] ds g Q X := by
  obtain ⟨c1, c2, z, rfl, ⟨h1, h2, hz⟩, h⟩ := h
  have hb := sizeLine_big
  refine ⟨_, rfl, _, ⟨List.mem_cons_self .., rfl⟩, ⟨rfl, rfl⟩, c1.chg, rfl, c1.chg.states.length, rfl, by have := h1.st.2; omega, ?_⟩
  refine ⟨_, rfl, _, rfl, c1, z, rfl, ⟨h1, hz⟩, ?_⟩
  refine ⟨_, rfl, _, rfl, c2, z, rfl, ⟨h2, hz⟩, ?_⟩
  refine forL_xs En.d (fun (rest : HRows) ρ g1 => g1 = g ∧ (∀ r ∈ rest, r.length ≤ 3) ∧ ∃ (acc : HRows) (x5 x6 : Option D), ρ = [some c1.d, some c2.d, some (.str z), some (.int (c1.chg.states.length : Nat)), some (.lst (acc.map En.d)), x5, x6] ∧ acc ++ rest.map (shiftR c1.chg.states.length) = jointL c1 c2 z) (rowsL c2 z) _ _ (fun r rest ρ g1 K hK ⟨eg, hr, acc, x5, x6, eρ, ha⟩ => ?_) (fun ρ g1 ⟨eg, _, acc, x5, x6, eρ, ha⟩ => ?_) ⟨rfl, fun r hr => ?_, rowsL c1 z, _, _, rfl, rfl⟩
  · subst eg eρ
    have hlen := hr r (List.mem_cons_self ..)
    refine ⟨⟨_, rfl⟩, _, rfl, by simp; omega, ?_⟩
    refine lcL_map En.d (fun h : Hour => En.d (α := Hour) (h.1, h.2 + (c1.chg.states.length : Nat))) r [] (fun e he K1 q => ?_) ?_
    · exact ⟨_, rfl, En.d e.1, rfl, _, rfl, .int e.2, rfl, _, rfl, Nat.le_trans (Nat.le_of_ble_eq_true rfl : 2 ≤ 1000000) hb, q⟩
    · refine ⟨_, rfl, ?_, hK _ _ ⟨rfl, fun r hr2 => hr r (List.mem_cons_of_mem _ hr2), acc ++ [shiftR c1.chg.states.length r], some (En.d r), x6, ?_, by simpa using ha⟩⟩
      · have := congrArg List.length ha
        simp [jointL, rowsL] at this ⊢
        have := h1.st.2
        have := h2.st.2
        omega
      · simp [shiftR, En.d_list, List.map_map, Function.comp_def]
  · subst eg eρ
    rw [List.map_nil, List.append_nil] at ha
    subst ha
    exact ⟨_, rfl, h⟩
  · obtain ⟨s, hs, rfl⟩ := List.mem_map.mp hr
    unfold rowL
    rw [List.length_map, h2.row s hs]
    exact h2.lt.2

/-! ### the first difference -/
/-- at is the first place where one and two differ -/
def FirstDiff {α : Type} (one two : List α) (n : Nat) : Prop := (∀ i, i < n → one[i]? = two[i]?) ∧ n < one.length ∧ n < two.length ∧ one[n]? ≠ two[n]?
def SP_first_difference : TSp := fun b ds g Q E => ∃ (α : Type) (_ : En α) (_ : DecidableEq α) (one two : List α) (n : Nat), ds = [.lst (one.map En.d), .lst (two.map En.d)] ∧ ((∀ x ∈ one, En.ok x) ∧ (∀ x ∈ two, En.ok x) ∧ En.dep α ≤ 64 ∧ FirstDiff one two n) ∧ Q (.int n) g
theorem ok_first_difference : SpOk 2 SP_first_difference := ⟨fun b ds g Q E ⟨_, _, _, c, c2, z, e, _⟩ => by rw [e]; rfl, fun b ds g Q Q' E E' w w' ⟨a, b1, b2, c, c2, z, e, h, q⟩ => ⟨a, b1, b2, c, c2, z, e, h, w _ _ q⟩⟩
theorem v_first_difference (b : B) (ds g Q X) (h : SP_first_difference b ds g Q X) : VC (t_first_difference (b := b)) ["one", "two", "at"] ds g Q X := by
  obtain ⟨α, i1, i2, one, two, n, rfl, ⟨h1, h2, hd, h3, h4, h5, h6⟩, h⟩ := h
  refine ⟨fun m ρ g1 => g1 = g ∧ ∃ i : Nat, i + m = n ∧ ρ = [some (.lst (one.map En.d)), some (.lst (two.map En.d)), some (.int i)], ⟨n, rfl, 0, by omega, rfl⟩, fun m ρ g1 ⟨eg, i, hi, eρ⟩ => ?_⟩
  subst eg eρ
  have a1 : one[i]? = some one[i] := by simp
  have a2 : two[i]? = some two[i] := by simp
  refine ⟨_, rfl, _, rfl, En.d one[i], atI_nat (by rw [List.getElem?_map, a1]; rfl), _, rfl, _, rfl, En.d two[i], atI_nat (by rw [List.getElem?_map, a2]; rfl), ?_⟩
  refine oEq_en one[i] two[i] (h1 _ (List.getElem_mem _)) (h2 _ (List.getElem_mem _)) hd ⟨_, rfl, ?_⟩
  by_cases hn : i = n
  · subst hn
    have hne : ¬ one[i] = two[i] := fun z => h6 (by rw [a1, a2, z])
    refine if0 (decide_eq_false hne) ?_
    exact ⟨_, rfl, rfl, h⟩
  · have heq : one[i] = two[i] := by
      have := h3 i (by omega)
      rw [a1, a2] at this
      exact Option.some.inj this
    refine if1 (decide_eq_true heq) ?_
    exact ⟨_, rfl, m - 1, by omega, rfl, i + 1, by omega, rfl⟩
end TL
set_option Elab.async false
set_option linter.all false
set_option maxRecDepth 100000
/-! VA7: numbers of keys, partitions. -/
namespace TL
open PySem PySem.Spec PyProof.Rows L2
/-- the keys in the order in which they come first -/
def firsts {α : Type} [DecidableEq α] : List α → List α → List α
  | acc, [] => acc
  | acc, x :: xs => firsts (if x ∈ acc then acc else acc ++ [x]) xs
def numb {α : Type} [DecidableEq α] (xs : List α) : List Int := xs.map fun x => ((firsts [] xs).idxOf x : Nat)
def SP_numbered : TSp := fun b ds g Q E => ∃ (α : Type) (_ : En α) (_ : Ky α) (_ : DecidableEq α) (xs : List α), ds = [.lst (xs.map En.d)] ∧ ((∀ x ∈ xs, (En.d x).isTup = true) ∧ Ky.kd α ≤ 8 ∧ xs.length ≤ 100) ∧ Q (En.d (numb xs)) g
theorem ok_numbered : SpOk 1 SP_numbered := ⟨fun b ds g Q E ⟨_, _, _, _, c, e, _⟩ => by rw [e]; rfl, fun b ds g Q Q' E E' w w' ⟨a, b1, b2, b3, c, e, h, q⟩ => ⟨a, b1, b2, b3, c, e, h, w _ _ q⟩⟩
theorem firsts_sub {α : Type} [DecidableEq α] : ∀ (xs acc : List α) (x : α), (x ∈ acc ∨ x ∈ xs) → x ∈ firsts acc xs
  | [], acc, x, h => h.resolve_right (by simp)
  | y :: xs, acc, x, h => by
    unfold firsts
    refine firsts_sub xs _ x ?_
    by_cases hy : y ∈ acc
    · rw [if_pos hy]
      rcases h with h | h
      · exact .inl h
      · rcases List.mem_cons.mp h with rfl | h
        · exact .inl hy
        · exact .inr h
    · rw [if_neg hy]
      rcases h with h | h
      · exact .inl (List.mem_append_left _ h)
      · rcases List.mem_cons.mp h with rfl | h
        · exact .inl (List.mem_append_right _ (List.mem_cons_self ..))
        · exact .inr h
theorem v_numbered (w : World) (b : B) (ds g Q X) (h : SP_numbered b ds g Q X) : VC (t_numbered (b := b) w) ["keys", "numbers", "key"] ds g Q X := by
  obtain ⟨α, i1, i2, i3, xs, rfl, ⟨ht, hd, hl⟩, h⟩ := h
  have hb := sizeLine_big
  have kok : ∀ x ∈ xs, (En.d x).kOk := fun x hx => ⟨ht x hx, Ky.pl x, Nat.le_trans (Ky.dp x) hd⟩
  have hin : ∀ (fs : List α) (x : α), (En.d x).nk ∈ nks (fs.map En.d) ↔ x ∈ fs := fun fs x => by
    rw [nks_map, List.mem_map]
    exact ⟨fun ⟨y, hy, e⟩ => by rw [← Ky.inj _ _ e]; exact hy, fun hx => ⟨x, hx, rfl⟩⟩
  refine ⟨_, rfl, ?_⟩
  refine forL_xs En.d (fun (rest : List α) ρ g1 => g1 = g ∧ (∀ x ∈ rest, x ∈ xs) ∧ ∃ (fs : List α) (x2 : Option D), ρ = [some (.lst (xs.map En.d)), some (.dct w (fs.map En.d) (dV 0 fs.length)), x2] ∧ firsts fs rest = firsts [] xs ∧ fs.length + rest.length ≤ 100) xs _ _ (fun x rest ρ g1 K hK ⟨eg, hr, fs, x2, eρ, hf, hc⟩ => ?_) (fun ρ g1 ⟨eg, _, fs, x2, eρ, hf, _⟩ => ?_) ⟨rfl, fun x hx => hx, [], none, rfl, rfl, by simpa using hl⟩
  · subst eg eρ
    rw [List.length_cons] at hc
    have hx := hr x (List.mem_cons_self ..)
    refine ⟨⟨_, _, rfl⟩, _, rfl, En.top x, _, rfl, rfl, _, _, _, _, rfl, rfl, ⟨kok x hx, by rw [List.length_map]; omega⟩, fun hi => ?_, fun hi => ?_⟩
    · have hi := (hin fs x).mp hi
      refine hK _ _ ⟨rfl, fun y hy => hr y (List.mem_cons_of_mem _ hy), fs, _, rfl, ?_, by omega⟩
      rw [← hf]
      show _ = firsts (if x ∈ fs then fs else fs ++ [x]) rest
      rw [if_pos hi]
    · have hi := fun z => hi ((hin fs x).mpr z)
      refine hK _ _ ⟨rfl, fun y hy => hr y (List.mem_cons_of_mem _ hy), fs ++ [x], some (En.d x), ?_, ?_, by simp; omega⟩
      · rw [List.length_append, List.length_cons, List.length_nil, Nat.zero_add, dV_snoc, List.map_append, List.length_map]
        rfl
      · rw [← hf]
        show _ = firsts (if x ∈ fs then fs else fs ++ [x]) rest
        rw [if_neg hi]
  · subst eg eρ
    have hf : fs = firsts [] xs := hf
    refine ⟨_, rfl, by simp; omega, ?_⟩
    refine lcL_map En.d (fun x => D.int ((fs.idxOf x : Nat) : Int)) xs [] (fun x hx K1 q => ?_) ?_
    · have hxf : x ∈ fs := by rw [hf]; exact firsts_sub xs [] x (.inr hx)
      refine ⟨_, rfl, _, rfl, ⟨rfl, kok x hx⟩, _, atD_idx x fs 0 hxf, ?_⟩
      rw [Nat.zero_add]
      exact q
    · have e : (numb xs).map D.int = xs.map fun x => D.int ((fs.idxOf x : Nat) : Int) := by
        unfold numb
        rw [← hf, List.map_map]; rfl
      rw [List.nil_append, ← e]
      exact h
/-- right rows: followers are rows, heard lists may be compared -/
structure WfRows (rows : HRows) : Prop where
  n : rows.length ≤ 100
  row : ∀ r ∈ rows, r.length ≤ 100
  fol : ∀ r ∈ rows, ∀ h ∈ r, 0 ≤ h.2 ∧ h.2 < rows.length
  ok : ∀ r ∈ rows, ∀ h ∈ r, En.ok h.1
def nth (l : List Int) (i : Nat) : Int := l.getD i 0
def keyL (last : List Int) (q : List Hour × Nat) : Int × List Int := (nth last q.2, q.1.map fun h => nth last h.2.toNat)
def keysL (rows : HRows) (last : List Int) : List (Int × List Int) := rows.zipIdx.map (keyL last)
def refL (rows : HRows) (last : List Int) : List Int := numb (keysL rows last)
theorem nth_get {l : List Int} {i : Nat} (h : i < l.length) : (l.map D.int)[i]? = some (D.int (nth l i)) := by
  unfold nth
  rw [List.getElem?_map, List.getD_eq_getElem?_getD, List.getElem?_eq_getElem h]
  rfl
theorem En.map_int (l : List Int) : l.map En.d = l.map D.int := rfl
def SP_refined : TSp := fun b ds g Q E => ∃ (rows : HRows) (last : List Int), ds = [En.d rows, En.d last] ∧ (WfRows rows ∧ last.length = rows.length) ∧ Q (En.d (refL rows last)) g
theorem ok_refined : SpOk 2 SP_refined := ⟨fun b ds g Q E ⟨c, c2, e, _⟩ => by rw [e]; rfl, fun b ds g Q Q' E E' w w' ⟨c, c2, e, h, q⟩ => ⟨c, c2, e, h, w _ _ q⟩⟩
theorem en_ok_int (x : Int × List Int) : En.ok x := ⟨trivial, fun _ _ => trivial⟩
theorem v_refined (b : B) (ds g Q X) (h : SP_refined b ds g Q X) : VC (t_refined (b := b) SP_numbered) ["rows", "last", "keys", "state", "row", "hour"] ds g Q X := by
  obtain ⟨rows, last, rfl, ⟨hw, hl⟩, h⟩ := h
  have hb := sizeLine_big
  refine ⟨Nat.zero_le _, _, rfl, ?_⟩
  show forL _ _ _ _ (enumD (rows.map En.d)) _ _
  rw [enumD_map]
  refine forL_xs (fun q : List Hour × Nat => D.tup [.int (q.2 : Nat), En.d q.1]) (fun (rest : List (List Hour × Nat)) ρ g1 => g1 = g ∧ (∀ q ∈ rest, q.1 ∈ rows ∧ q.2 < rows.length) ∧ ∃ (acc : List (Int × List Int)) (x3 x4 x5 : Option D), ρ = [some (En.d rows), some (En.d last), some (.lst (acc.map En.d)), x3, x4, x5] ∧ acc ++ rest.map (keyL last) = keysL rows last) _ _ _ (fun q rest ρ g1 K hK ⟨eg, hq, acc, x3, x4, x5, eρ, ha⟩ => ?_) (fun ρ g1 ⟨eg, _, acc, x3, x4, x5, eρ, ha⟩ => ?_) ⟨rfl, fun q hq => ⟨zipIdx_mem hq, ?_⟩, [], _, _, _, rfl, rfl⟩
  · subst eg eρ
    obtain ⟨hr, hi⟩ := hq q (List.mem_cons_self ..)
    have hlen := hw.row _ hr
    refine ⟨_, rfl, rfl, _, _, rfl, _, _, rfl, rfl, ?_⟩
    refine ⟨⟨_, rfl⟩, _, rfl, _, rfl, .int (nth last q.2), atI_nat (nth_get (by omega)), _, rfl, by simp; omega, ?_⟩
    refine lcL_map En.d (fun h : Hour => D.int (nth last h.2.toNat)) q.1 [] (fun e he K1 q1 => ?_) ?_
    · have hf := hw.fol _ hr e he
      exact ⟨_, rfl, _, rfl, .int e.2, rfl, .int (nth last e.2.toNat), atI_of (i := e.2.toNat) (by omega) (nth_get (by omega)), q1⟩
    · refine ⟨Nat.le_trans (Nat.le_of_ble_eq_true rfl : 2 ≤ 1000000) hb, _, rfl, ?_, hK _ _ ⟨rfl, fun r hr2 => hq r (List.mem_cons_of_mem _ hr2), acc ++ [keyL last q], some (.int (q.2 : Nat)), some (En.d q.1), x5, ?_, by simpa using ha⟩⟩
      · have := congrArg List.length ha
        simp [keysL] at this ⊢
        have := hw.n
        omega
      · simp [keyL, En.d_prod, En.d_list, En.d_int, List.map_map, Function.comp_def]
  · subst eg eρ
    rw [List.map_nil, List.append_nil] at ha
    subst ha
    exact ⟨_, rfl, Int × List Int, inferInstance, inferInstance, inferInstance, _, rfl, ⟨fun x _ => rfl, by decide, by simpa [keysL] using hw.n⟩, h⟩
  · obtain ⟨a, i⟩ := q
    exact (List.mem_zipIdx' hq).1
end TL
set_option Elab.async false
set_option linter.all false
set_option maxRecDepth 100000
/-! VA8: row_partitions, row_word. -/
namespace TL
open PySem PySem.Spec PyProof.Rows L2
theorem atI_last {α : Type} (xs : List α) (a : α) : atI (xs ++ [a]) (-1) = some a := by
  unfold atI ixN
  rw [if_neg (by omega), if_pos (by rw [List.length_append]; simp; omega)]
  simp
  rw [show (-1 + ((xs.length : Int) + 1)).toNat = xs.length by omega]
  simp
def P0 (rows : HRows) : List Int := numb (rows.map fun r => r.map fun h => h.1)
def partK (rows : HRows) : Nat → List Int
  | 0 => P0 rows
  | k + 1 => refL rows (partK rows k)
def partsL (rows : HRows) (m : Nat) : List (List Int) := (List.range (m + 1)).map (partK rows)
structure Stable (rows : HRows) (m : Nat) : Prop where
  fix : partK rows (m + 1) = partK rows m
  least : ∀ k, k < m → partK rows (k + 1) ≠ partK rows k
  le : m ≤ 1000
def SP_row_partitions : TSp := fun b ds g Q E => ∃ (rows : HRows) (m : Nat), ds = [En.d rows] ∧ (WfRows rows ∧ Stable rows m) ∧ Q (En.d (partsL rows m)) g
theorem ok_row_partitions : SpOk 1 SP_row_partitions := ⟨fun b ds g Q E ⟨c, c2, e, _⟩ => by rw [e]; rfl, fun b ds g Q Q' E E' w w' ⟨c, c2, e, h, q⟩ => ⟨c, c2, e, h, w _ _ q⟩⟩
theorem numb_len {α : Type} [DecidableEq α] (xs : List α) : (numb xs).length = xs.length := by simp [numb]
theorem partK_len (rows : HRows) (k : Nat) : (partK rows k).length = rows.length := by
  cases k with
  | zero => simp [partK, P0, numb_len]
  | succ k => simp [partK, refL, numb_len, keysL]
theorem partsL_last (rows : HRows) (m : Nat) : (partsL rows m).map En.d = ((List.range m).map fun k => En.d (partK rows k)) ++ [En.d (partK rows m)] := by
  unfold partsL
  rw [List.range_succ, List.map_append, List.map_append, List.map_map]
  rfl
theorem en_ok_ints (x : List Int) : En.ok x := fun _ _ => trivial
theorem heard_ok {z : Heard} (h : ∀ q ∈ z, En.ok q.2) : En.ok z := fun q hq => ⟨trivial, h q hq⟩
theorem v_row_partitions (b : B) (ds g Q X) (h : SP_row_partitions b ds g Q X) : VC (t_row_partitions (b := b) SP_numbered SP_refined) ["rows", "found", "row", "hour", "finer"] ds g Q X := by
  obtain ⟨rows, m, rfl, ⟨hw, hs, hm, hle⟩, h⟩ := h
  have hb := sizeLine_big
  have hn := hw.n
  refine ⟨_, rfl, by simp; omega, ?_⟩
  refine lcL_map En.d (fun r : List Hour => En.d (r.map fun h => h.1)) rows [] (fun r hr K1 q => ?_) ?_
  · have := hw.row r hr
    refine ⟨_, rfl, by simp; omega, ?_⟩
    refine lcL_map En.d (fun h : Hour => En.d h.1) r [] (fun e he K2 q2 => ⟨_, rfl, En.d e.1, rfl, q2⟩) ?_
    have e : r.map (fun h : Hour => En.d h.1) = (r.map fun h : Hour => h.1).map En.d := by simp [List.map_map, Function.comp_def]
    rw [List.nil_append, e]
    exact q
  · refine ⟨List Heard, inferInstance, inferInstance, inferInstance, rows.map fun r => r.map fun h => h.1, by simp [List.map_map, Function.comp_def], ⟨fun x hx => rfl, by decide, by simpa using hn⟩, ?_⟩
    · refine ⟨Nat.le_trans (Nat.le_of_ble_eq_true rfl : 1 ≤ 1000000) hb, ?_⟩
      refine ⟨_, rfl, _, rfl, En.d (partK rows 0), rfl, rows, _, rfl, ⟨hw, partK_len rows 0⟩, ?_⟩
      refine ⟨fun k ρ g1 => g1 = g ∧ ∃ (i : Nat) (x2 x3 : Option D), i + k = m ∧ ρ = [some (En.d rows), some (.lst ((partsL rows i).map En.d)), x2, x3, some (En.d (partK rows (i + 1)))], ⟨m, rfl, 0, none, none, by omega, rfl⟩, fun k ρ g1 ⟨eg, i, x2, x3, hi, eρ⟩ => ?_⟩
      subst eg eρ
      refine ⟨_, rfl, _, rfl, En.d (partK rows i), ?_, ?_⟩
      · show atI ((partsL rows i).map En.d) (-1) = _
        rw [partsL_last]
        exact atI_last _ _
      · refine oNe_en (partK rows (i + 1)) (partK rows i) (en_ok_ints _) (en_ok_ints _) (by decide) ⟨_, rfl, ?_⟩
        by_cases hi2 : i = m
        · subst hi2
          refine if0 (by rw [decide_eq_true hs]; rfl) ?_
          exact ⟨_, rfl, h⟩
        · refine if1 (by rw [decide_eq_false (hm i (by omega))]; rfl) ?_
          refine ⟨⟨_, rfl⟩, _, rfl, rfl, _, rfl, by simp [partsL]; omega, ?_⟩
          refine ⟨_, rfl, _, rfl, rows, partK rows (i + 1), rfl, ⟨hw, partK_len rows _⟩, ?_⟩
          refine ⟨k - 1, by omega, rfl, i + 1, x2, x3, by omega, ?_⟩
          rw [partsL_last rows (i + 1)]
          show [_, some (D.lst (((partsL rows i).map En.d) ++ [En.d (partK rows (i + 1))])), _, _, _] = _
          rw [partsL]
          simp [refL, partK, List.map_map, Function.comp_def]
end TL
set_option Elab.async false
set_option linter.all false
set_option maxRecDepth 100000
/-! VA9: row_word. -/
namespace TL
open PySem PySem.Spec PyProof.Rows L2
def rowAt (rows : HRows) (a : Nat) : List Hour := rows.getD a []
def folAt (rows : HRows) (a n : Nat) : Nat := ((rowAt rows a).getD n ([], 0)).2.toNat
/-- the word that the ranks tell -/
inductive WordOf (rows : HRows) : Nat → Nat → Nat → List Nat → Prop
  | zero {a b n : Nat} : FirstDiff ((rowAt rows a).map fun h => h.1) ((rowAt rows b).map fun h => h.1) n → WordOf rows 0 a b [n]
  | succ {r a b n : Nat} {w : List Nat} : FirstDiff ((rowAt rows a).map fun h => nth (partK rows r) h.2.toNat) ((rowAt rows b).map fun h => nth (partK rows r) h.2.toNat) n → WordOf rows r (folAt rows a n) (folAt rows b n) w → WordOf rows (r + 1) a b (n :: w)
def wordS (ls : Str) (w : List Nat) : Str := SX.S (w.map fun n => ls.cps.toList.getD n 0)
/-- the rank at which a and b part -/
structure Parts (rows : HRows) (m r a b : Nat) : Prop where
  le : r ≤ m
  ne : nth (partK rows r) a ≠ nth (partK rows r) b
  eq : ∀ k, k < r → nth (partK rows k) a = nth (partK rows k) b
  top : nth (partK rows m) a ≠ nth (partK rows m) b
def SP_row_word : TSp := fun b ds g Q E => ∃ (rows : HRows) (m : Nat) (ls : Str) (x y : Nat), ds = [En.d rows, En.d (partsL rows m), .str ls, .int x, .int y] ∧ (WfRows rows ∧ (∀ r ∈ rows, r.length = ls.cps.toList.length) ∧ ls.cps.toList.length ≤ 1000 ∧ x < rows.length ∧ y < rows.length ∧ m ≤ 1000) ∧
  ((nth (partK rows m) x = nth (partK rows m) y ∧ Q .non g) ∨ ∃ r w, Parts rows m r x y ∧ WordOf rows r x y w ∧ Q (.str (wordS ls w)) g)
theorem ok_row_word : SpOk 5 SP_row_word := ⟨fun b ds g Q E ⟨c, c2, c3, c4, c5, e, _⟩ => by rw [e]; rfl, fun b ds g Q Q' E E' w w' ⟨c, c2, c3, c4, c5, e, h, q⟩ => ⟨c, c2, c3, c4, c5, e, h, q.imp (fun q => ⟨q.1, w _ _ q.2⟩) fun ⟨r, wd, p, o, q⟩ => ⟨r, wd, p, o, w _ _ q⟩⟩⟩
theorem rowAt_get {rows : HRows} {a : Nat} (h : a < rows.length) : rows[a]? = some (rowAt rows a) := by
  unfold rowAt
  rw [List.getD_eq_getElem?_getD, List.getElem?_eq_getElem h]; rfl
theorem rowAt_mem {rows : HRows} {a : Nat} (h : a < rows.length) : rowAt rows a ∈ rows := List.mem_of_getElem? (rowAt_get h)
theorem tup_at {α : Type} [En α] {xs : List α} {i : Nat} {x : α} (h : xs[i]? = some x) : atI (xs.map En.d) (i : Int) = some (En.d x) := atI_nat (by rw [List.getElem?_map, h]; rfl)
theorem partsL_get {rows : HRows} {m k : Nat} (h : k ≤ m) : (partsL rows m)[k]? = some (partK rows k) := by
  unfold partsL
  rw [List.getElem?_map, List.getElem?_range (by omega)]; rfl
theorem ints_at {l : List Int} {i : Nat} (h : i < l.length) : atI (l.map En.d) (i : Int) = some (D.int (nth l i)) := atI_nat (nth_get h)
theorem wordOf_lt {rows : HRows} {ls : Str} (hr : ∀ r ∈ rows, r.length = ls.cps.toList.length) {r a b : Nat} {w : List Nat} (h : WordOf rows r a b w) : a < rows.length → ∀ n, w.head? = some n → n < ls.cps.toList.length := by
  intro ha n hn
  cases h with
  | zero f => cases hn; have := f.2.1; rw [List.length_map, hr _ (rowAt_mem ha)] at this; exact this
  | succ f _ => cases hn; have := f.2.1; rw [List.length_map, hr _ (rowAt_mem ha)] at this; exact this
theorem wordS_snoc (ls : Str) (w : List Nat) (n : Nat) : wordS ls w ++ sg (ls.cps.toList.getD n 0) = wordS ls (w ++ [n]) := by
  unfold wordS
  rw [List.map_append]
  exact SX.S_cat _ _
theorem wordS_len (ls : Str) (w : List Nat) : (wordS ls w).length = w.length := by
  unfold wordS
  rw [SX.S_len, List.length_map]
theorem wordOf_len {rows : HRows} {r a b : Nat} {w : List Nat} (h : WordOf rows r a b w) : w.length = r + 1 := by
  induction h with
  | zero => rfl
  | succ _ _ ih => rw [List.length_cons, ih]
theorem let_at {ls : Str} {n : Nat} (h : n < ls.cps.toList.length) : atI ls.cps.toList (n : Int) = some (ls.cps.toList.getD n 0) := atI_nat (by rw [List.getD_eq_getElem?_getD, List.getElem?_eq_getElem h]; rfl)
theorem v_row_word (b : B) (ds g Q X) (h : SP_row_word b ds g Q X) : VC (t_row_word (b := b) SP_first_difference) ["rows", "found", "letters", "one", "two", "rank", "word", "earlier", "at", "hour"] ds g Q X := by
  obtain ⟨rows, m, ls, x, y, rfl, ⟨hw, hr, hls, hx, hy, hm⟩, h⟩ := h
  have hb := sizeLine_big
  have lastp : atI ((partsL rows m).map En.d) (-1) = some (En.d (partK rows m)) := by rw [partsL_last]; exact atI_last _ _
  have pl := fun k => partK_len rows k
  refine ⟨_, rfl, En.d (partK rows m), lastp, _, rfl, _, ints_at (by rw [pl]; exact hx), _, rfl, En.d (partK rows m), lastp, _, rfl, _, ints_at (by rw [pl]; exact hy), ?_⟩
  refine oEq_en (nth (partK rows m) x) (nth (partK rows m) y) trivial trivial (by decide) ⟨_, rfl, ?_⟩
  rcases h with ⟨he, h⟩ | ⟨r, w, ⟨hrm, hne, heq, htop⟩, hwo, h⟩
  · exact if1 (decide_eq_true he) h
  refine if0 (decide_eq_false htop) ?_
  -- the rank
  refine ⟨fun k ρ g1 => g1 = g ∧ ∃ i : Nat, i + k = r ∧ ρ = [some (En.d rows), some (En.d (partsL rows m)), some (.str ls), some (.int x), some (.int y), some (.int i), none, none, none, none], ⟨r, rfl, 0, by omega, rfl⟩, fun k ρ g1 ⟨eg, i, hi, eρ⟩ => ?_⟩
  subst eg eρ
  refine ⟨_, rfl, _, rfl, En.d (partK rows i), tup_at (partsL_get (by omega)), _, rfl, _, ints_at (by rw [pl]; exact hx), _, rfl, _, rfl, En.d (partK rows i), tup_at (partsL_get (by omega)), _, rfl, _, ints_at (by rw [pl]; exact hy), ?_⟩
  refine oEq_en (nth (partK rows i) x) (nth (partK rows i) y) trivial trivial (by decide) ⟨_, rfl, ?_⟩
  by_cases hir : ¬ i = r
  · refine if1 (decide_eq_true (heq i (by omega))) ?_
    exact ⟨_, rfl, k - 1, by omega, rfl, i + 1, by omega, rfl⟩
  have hir := Decidable.of_not_not hir
  subst hir
  refine if0 (decide_eq_false hne) ?_
  -- the word
  refine ⟨fun k ρ g2 => g2 = g1 ∧ ∃ (x' y' : Nat) (pre w' : List Nat) (x7 x8 x9 : Option D), (x' < rows.length ∧ y' < rows.length) ∧ WordOf rows k x' y' w' ∧ pre ++ w' = w ∧ ρ = [some (En.d rows), some (En.d (partsL rows m)), some (.str ls), some (.int x'), some (.int y'), some (.int k), some (.str (wordS ls pre)), x7, x8, x9],
    ⟨i, rfl, x, y, [], w, none, none, none, ⟨hx, hy⟩, hwo, rfl, rfl⟩, fun k ρ g2 ⟨eg, x', y', pre, w', x7, x8, x9, ⟨hx', hy'⟩, hwo', hpre, eρ⟩ => ?_⟩
  subst eg eρ
  have hwl := wordOf_len hwo
  have hpl : pre.length + w'.length = w.length := by rw [← hpre, List.length_append]
  have hk := wordOf_len hwo'
  refine ⟨_, rfl, _, rfl, ?_⟩
  have lx : (rowAt rows x').length = ls.cps.toList.length := hr _ (rowAt_mem hx')
  have ly : (rowAt rows y').length = ls.cps.toList.length := hr _ (rowAt_mem hy')
  cases hwo' with
  | @zero _ _ n fd =>
    refine if0 (by simp) ?_
    refine ⟨_, rfl, _, rfl, _, tup_at (rowAt_get hx'), by simp; omega, ?_⟩
    refine lcL_map En.d (fun h : Hour => En.d h.1) (rowAt rows x') [] (fun e he K1 q => ⟨_, rfl, En.d e.1, rfl, q⟩) ?_
    refine ⟨_, rfl, _, rfl, _, tup_at (rowAt_get hy'), by simp; omega, ?_⟩
    refine lcL_map En.d (fun h : Hour => En.d h.1) (rowAt rows y') [] (fun e he K1 q => ⟨_, rfl, En.d e.1, rfl, q⟩) ?_
    refine ⟨Heard, inferInstance, inferInstance, (rowAt rows x').map fun h => h.1, (rowAt rows y').map fun h => h.1, n, by simp [List.map_map, Function.comp_def], ⟨fun z hz => ?_, fun z hz => ?_, by decide, fd⟩, ?_⟩
    · obtain ⟨e, he, rfl⟩ := List.mem_map.mp hz
      exact hw.ok _ (rowAt_mem hx') e he
    · obtain ⟨e, he, rfl⟩ := List.mem_map.mp hz
      exact hw.ok _ (rowAt_mem hy') e he
    · have hn : n < ls.cps.toList.length := by have := fd.2.1; rw [List.length_map, lx] at this; exact this
      refine ⟨_, rfl, _, rfl, _, rfl, _, ⟨?_, let_at hn⟩, ?_⟩
      · have : ls.length = ls.cps.toList.length := by simp [Str.length]
        omega
      · show (wordS ls pre).length + (sg _).length ≤ sizeLine ∧ Q (.str (wordS ls pre ++ sg (ls.cps.toList.getD n 0))) g2
        rw [wordS_snoc, hpre, wordS_len]
        refine ⟨?_, h⟩
        show _ + 1 ≤ _
        omega
  | @succ r' _ _ n w2 fd hwo2 =>
    refine if1 (by simp) ?_
    have hn : n < ls.cps.toList.length := by have := fd.2.1; rw [List.length_map, lx] at this; exact this
    have hri : r' ≤ m := by omega
    have e1 : ((r' + 1 : Nat) : Int) - 1 = (r' : Nat) := by omega
    refine ⟨_, rfl, ?_⟩
    show ∃ d, _ ∧ _
    refine ⟨_, rfl, _, rfl, En.d (partK rows r'), ?_, ?_⟩
    · rw [e1]; exact tup_at (partsL_get hri)
    refine ⟨_, rfl, _, rfl, _, tup_at (rowAt_get hx'), by simp; omega, ?_⟩
    refine lcL_map En.d (fun h : Hour => D.int (nth (partK rows r') h.2.toNat)) (rowAt rows x') [] (fun e he K1 q => ?_) ?_
    · have hf := hw.fol _ (rowAt_mem hx') e he
      exact ⟨_, rfl, _, rfl, .int e.2, rfl, _, atI_of (i := e.2.toNat) (by omega) (nth_get (by rw [pl]; omega)), q⟩
    refine ⟨_, rfl, _, rfl, _, tup_at (rowAt_get hy'), by simp; omega, ?_⟩
    refine lcL_map En.d (fun h : Hour => D.int (nth (partK rows r') h.2.toNat)) (rowAt rows y') [] (fun e he K1 q => ?_) ?_
    · have hf := hw.fol _ (rowAt_mem hy') e he
      exact ⟨_, rfl, _, rfl, .int e.2, rfl, _, atI_of (i := e.2.toNat) (by omega) (nth_get (by rw [pl]; omega)), q⟩
    refine ⟨Int, inferInstance, inferInstance, (rowAt rows x').map fun h => nth (partK rows r') h.2.toNat, (rowAt rows y').map fun h => nth (partK rows r') h.2.toNat, n, by simp [List.map_map, Function.comp_def, En.d_int], ⟨fun z hz => trivial, fun z hz => trivial, by decide, fd⟩, ?_⟩
    refine ⟨_, rfl, _, rfl, _, rfl, _, ⟨?_, let_at hn⟩, ?_⟩
    · have : ls.length = ls.cps.toList.length := by simp [Str.length]
      omega
    have gx : (rowAt rows x')[n]? = some ((rowAt rows x').getD n ([], 0)) := by rw [List.getD_eq_getElem?_getD, List.getElem?_eq_getElem (by omega)]; rfl
    have gy : (rowAt rows y')[n]? = some ((rowAt rows y').getD n ([], 0)) := by rw [List.getD_eq_getElem?_getD, List.getElem?_eq_getElem (by omega)]; rfl
    have fx := hw.fol _ (rowAt_mem hx') _ (List.mem_of_getElem? gx)
    have fy := hw.fol _ (rowAt_mem hy') _ (List.mem_of_getElem? gy)
    have step : r' < r' + 1 ∧ g2 = g2 := ⟨by omega, rfl⟩
    refine ⟨?_, ?_⟩
    · show (wordS ls pre).length + 1 ≤ sizeLine
      rw [wordS_len]
      omega
    refine ⟨_, rfl, _, rfl, En.d (rowAt rows x'), tup_at (rowAt_get hx'), _, rfl, _, tup_at gx, .int _, rfl, _, rfl, _, rfl, En.d (rowAt rows y'), tup_at (rowAt_get hy'), _, rfl, _, tup_at gy, .int _, rfl, _, _, rfl, ?_⟩
    refine ⟨r', by omega, rfl, folAt rows x' n, folAt rows y' n, pre ++ [n], w2, some (En.d (partK rows r')), some (.int n), x9, ⟨by unfold folAt; omega, by unfold folAt; omega⟩, hwo2, by simpa using hpre, ?_⟩
    rw [← wordS_snoc]
    have ex : (((rowAt rows x').getD n ([], 0)).2 : Int) = (folAt rows x' n : Nat) := by unfold folAt; omega
    have ey : (((rowAt rows y').getD n ([], 0)).2 : Int) = (folAt rows y' n : Nat) := by unfold folAt; omega
    rw [← ex, ← ey, ← e1]
    rfl
end TL
set_option Elab.async false
set_option linter.all false
set_option maxRecDepth 100000
/-! VM1: the partitions: numbers tell equality, they become stable, the words exist. -/
namespace TL
open PySem PySem.Spec PyProof.Rows L2
section
variable {α β : Type} [DecidableEq α] [DecidableEq β]
theorem mem_firsts {x : α} : ∀ (xs acc : List α), x ∈ firsts acc xs ↔ x ∈ acc ∨ x ∈ xs
  | [], acc => by simp [firsts]
  | y :: xs, acc => by
    unfold firsts
    rw [mem_firsts xs]
    by_cases h : y ∈ acc
    · rw [if_pos h, List.mem_cons]
      constructor
      · rintro (h1 | h1)
        · exact .inl h1
        · exact .inr (.inr h1)
      · rintro (h1 | rfl | h1)
        · exact .inl h1
        · exact .inl h
        · exact .inr h1
    · rw [if_neg h]; simp [or_assoc]
theorem idxOf_inj' {d : List α} {x y : α} (hx : x ∈ d) (hy : y ∈ d) (h : d.idxOf x = d.idxOf y) : x = y := by
  have h1 := List.getElem_idxOf (List.idxOf_lt_length_iff.mpr hx)
  have h2 := List.getElem_idxOf (List.idxOf_lt_length_iff.mpr hy)
  rw [← h1, ← h2]
  simp only [h]
theorem nth_numb {xs : List α} {i : Nat} (h : i < xs.length) : nth (numb xs) i = ((firsts [] xs).idxOf xs[i] : Nat) := by
  unfold nth numb
  rw [List.getD_eq_getElem?_getD, List.getElem?_map, List.getElem?_eq_getElem h]; rfl
theorem numb_eq {xs : List α} {i j : Nat} (hi : i < xs.length) (hj : j < xs.length) : nth (numb xs) i = nth (numb xs) j ↔ xs[i] = xs[j] := by
  rw [nth_numb hi, nth_numb hj]
  constructor
  · intro h
    exact idxOf_inj' (d := firsts [] xs) ((mem_firsts _ _).mpr (.inr (List.getElem_mem _))) ((mem_firsts _ _).mpr (.inr (List.getElem_mem _))) (by omega)
  · intro h; rw [h]
theorem idxOf_map {f : α → β} : ∀ (d : List α) (x : α), (∀ y ∈ d, f y = f x → y = x) → (d.map f).idxOf (f x) = d.idxOf x
  | [], x, _ => rfl
  | y :: d, x, h => by
    rw [List.map_cons, List.idxOf_cons, List.idxOf_cons]
    by_cases e : y = x
    · subst e; simp
    · have e2 : ¬ f y = f x := fun z => e (h y (List.mem_cons_self ..) z)
      have ih := idxOf_map d x fun z hz => h z (List.mem_cons_of_mem _ hz)
      rw [show (f y == f x) = false from by simpa using e2, show (y == x) = false from by simpa using e, ih]
theorem firsts_map {f : α → β} : ∀ (xs acc : List α), (∀ x y, (x ∈ acc ∨ x ∈ xs) → (y ∈ acc ∨ y ∈ xs) → f x = f y → x = y) → firsts (acc.map f) (xs.map f) = (firsts acc xs).map f
  | [], acc, _ => rfl
  | x :: xs, acc, h => by
    have e : f x ∈ acc.map f ↔ x ∈ acc := ⟨fun z => by
      obtain ⟨y, hy, e⟩ := List.mem_map.mp z
      rw [← h y x (.inl hy) (.inr (List.mem_cons_self ..)) e]; exact hy, fun z => List.mem_map_of_mem z⟩
    show firsts (if f x ∈ acc.map f then acc.map f else acc.map f ++ [f x]) (xs.map f) = (firsts (if x ∈ acc then acc else acc ++ [x]) xs).map f
    by_cases hx : x ∈ acc
    · rw [if_pos (e.mpr hx), if_pos hx]
      exact firsts_map xs acc fun a b ha hb => h a b (ha.imp id (List.mem_cons_of_mem _)) (hb.imp id (List.mem_cons_of_mem _))
    · rw [if_neg (fun z => hx (e.mp z)), if_neg hx]
      have := firsts_map xs (acc ++ [x]) fun a b ha hb => h a b (by
        rcases ha with ha | ha
        · rcases List.mem_append.mp ha with ha | ha
          · exact .inl ha
          · exact .inr (by rw [List.mem_singleton.mp ha]; exact List.mem_cons_self ..)
        · exact .inr (List.mem_cons_of_mem _ ha)) (by
        rcases hb with ha | ha
        · rcases List.mem_append.mp ha with ha | ha
          · exact .inl ha
          · exact .inr (by rw [List.mem_singleton.mp ha]; exact List.mem_cons_self ..)
        · exact .inr (List.mem_cons_of_mem _ ha))
      rw [List.map_append] at this
      exact this
theorem numb_map {f : α → β} (xs : List α) (h : ∀ x ∈ xs, ∀ y ∈ xs, f x = f y → x = y) : numb (xs.map f) = numb xs := by
  unfold numb
  have e := firsts_map (f := f) xs [] fun x y hx hy => h x (hx.resolve_left (by simp)) y (hy.resolve_left (by simp))
  rw [List.map_nil] at e
  rw [e, List.map_map]
  refine List.map_congr_left fun x hx => ?_
  show (((firsts [] xs).map f).idxOf (f x) : Int) = _
  rw [idxOf_map _ _ fun y hy e => h y ((mem_firsts _ _).mp hy |>.resolve_left (by simp)) x hx e]
end
theorem numb_kernel {α β : Type} [DecidableEq α] [DecidableEq β] {xs : List α} {ys : List β} (hl : xs.length = ys.length) (h : ∀ i j (hi : i < xs.length) (hj : j < xs.length), xs[i] = xs[j] ↔ ys[i]'(hl ▸ hi) = ys[j]'(hl ▸ hj)) : numb xs = numb ys := by
  have e1 : (xs.zip ys).map Prod.fst = xs := List.map_fst_zip (by omega)
  have e2 : (xs.zip ys).map Prod.snd = ys := List.map_snd_zip (by omega)
  have key : ∀ p ∈ xs.zip ys, ∀ q ∈ xs.zip ys, p.1 = q.1 ↔ p.2 = q.2 := fun p hp q hq => by
    obtain ⟨i, hi, rfl⟩ := List.mem_iff_getElem.mp hp
    obtain ⟨j, hj, rfl⟩ := List.mem_iff_getElem.mp hq
    rw [List.length_zip] at hi hj
    simpa using h i j (by omega) (by omega)
  have a1 := numb_map (f := Prod.fst) (xs.zip ys) fun p hp q hq e => Prod.ext e ((key p hp q hq).mp e)
  have a2 := numb_map (f := Prod.snd) (xs.zip ys) fun p hp q hq e => Prod.ext ((key p hp q hq).mpr e) e
  rw [e1] at a1
  rw [e2] at a2
  rw [a1, a2]
/-! ### first differences -/
theorem firstDiff_of {α : Type} : ∀ (xs ys : List α), xs.length = ys.length → xs ≠ ys → ∃ n, FirstDiff xs ys n
  | [], [], _, h => absurd rfl h
  | [], y :: ys, h, _ => by simp at h
  | x :: xs, [], h, _ => by simp at h
  | x :: xs, y :: ys, hl, h => by
    by_cases e : x = y
    · subst e
      obtain ⟨n, h1, h2, h3, h4⟩ := firstDiff_of xs ys (by simpa using hl) fun z => h (by rw [z])
      refine ⟨n + 1, fun i hi => ?_, by simpa using h2, by simpa using h3, by simpa using h4⟩
      cases i with
      | zero => rfl
      | succ i => simpa using h1 i (by omega)
    · exact ⟨0, fun i hi => by omega, by simp, by simp, by simpa using e⟩
end TL
set_option Elab.async false
set_option linter.all false
set_option maxRecDepth 100000
/-! VM2: the partitions become stable; where two rows part, a word is told. -/
namespace TL
open PySem PySem.Spec PyProof.Rows L2
section
variable {rows : HRows}
theorem keysL_len (last : List Int) : (keysL rows last).length = rows.length := by simp [keysL]
theorem keysL_get {last : List Int} {i : Nat} (h : i < rows.length) : (keysL rows last)[i]'(by rw [keysL_len]; exact h) = (nth last i, (rowAt rows i).map fun q => nth last q.2.toNat) := by
  have e := rowAt_get h
  rw [List.getElem?_eq_getElem h] at e
  simp only [keysL, List.getElem_map, List.getElem_zipIdx, keyL, Nat.zero_add]
  rw [Option.some.inj e]
theorem P0_eq {a b : Nat} (ha : a < rows.length) (hb : b < rows.length) : nth (partK rows 0) a = nth (partK rows 0) b ↔ ((rowAt rows a).map fun h => h.1) = (rowAt rows b).map fun h => h.1 := by
  show nth (numb _) a = nth (numb _) b ↔ _
  rw [numb_eq (by simpa using ha) (by simpa using hb)]
  have e1 := rowAt_get ha
  have e2 := rowAt_get hb
  rw [List.getElem?_eq_getElem ha] at e1
  rw [List.getElem?_eq_getElem hb] at e2
  simp only [List.getElem_map, Option.some.inj e1, Option.some.inj e2]
theorem PS_eq {k a b : Nat} (ha : a < rows.length) (hb : b < rows.length) : nth (partK rows (k + 1)) a = nth (partK rows (k + 1)) b ↔ (nth (partK rows k) a = nth (partK rows k) b ∧ ((rowAt rows a).map fun q => nth (partK rows k) q.2.toNat) = (rowAt rows b).map fun q => nth (partK rows k) q.2.toNat) := by
  show nth (numb _) a = nth (numb _) b ↔ _
  rw [numb_eq (by rw [keysL_len]; exact ha) (by rw [keysL_len]; exact hb), keysL_get ha, keysL_get hb, Prod.mk.injEq]
theorem P_down {k a b : Nat} (ha : a < rows.length) (hb : b < rows.length) (h : nth (partK rows (k + 1)) a = nth (partK rows (k + 1)) b) : nth (partK rows k) a = nth (partK rows k) b := ((PS_eq ha hb).mp h).1
theorem P_le {k j a b : Nat} (ha : a < rows.length) (hb : b < rows.length) (hj : j ≤ k) (h : nth (partK rows k) a = nth (partK rows k) b) : nth (partK rows j) a = nth (partK rows j) b := by
  induction k with
  | zero => rw [show j = 0 by omega]; exact h
  | succ k ih =>
    by_cases e : j = k + 1
    · rw [e]; exact h
    · exact ih (by omega) (P_down ha hb h)
/-- equal kernels: equal numbers -/
theorem P_fix {k : Nat} (h : ∀ a b, a < rows.length → b < rows.length → nth (partK rows k) a = nth (partK rows k) b → nth (partK rows (k + 1)) a = nth (partK rows (k + 1)) b) : partK rows (k + 1) = partK rows k := by
  have key : ∀ {a b : Nat} (ha : a < rows.length) (hb : b < rows.length), nth (partK rows (k + 1)) a = nth (partK rows (k + 1)) b ↔ nth (partK rows k) a = nth (partK rows k) b := fun ha hb => ⟨P_down ha hb, h _ _ ha hb⟩
  cases k with
  | zero =>
    refine numb_kernel (by rw [keysL_len]; simp) fun i j hi hj => ?_
    rw [keysL_len] at hi hj
    have k1 := key hi hj
    rw [show partK rows (0 + 1) = numb (keysL rows (partK rows 0)) from rfl, numb_eq (by rw [keysL_len]; exact hi) (by rw [keysL_len]; exact hj)] at k1
    rw [k1]
    exact numb_eq (by simpa using hi) (by simpa using hj)
  | succ k =>
    refine numb_kernel (by rw [keysL_len, keysL_len]) fun i j hi hj => ?_
    rw [keysL_len] at hi hj
    have k1 := key hi hj
    rw [show partK rows (k + 1 + 1) = numb (keysL rows (partK rows (k + 1))) from rfl, numb_eq (by rw [keysL_len]; exact hi) (by rw [keysL_len]; exact hj)] at k1
    rw [k1]
    exact numb_eq (by rw [keysL_len]; exact hi) (by rw [keysL_len]; exact hj)
/-! ### the end -/
theorem filter_less {α : Type} {p q : α → Bool} : ∀ (l : List α), (∀ x ∈ l, q x = true → p x = true) → (l.filter q).length ≤ (l.filter p).length ∧ ((l.filter q).length = (l.filter p).length → ∀ x ∈ l, p x = true → q x = true)
  | [], _ => ⟨by simp, fun _ x hx => by simp at hx⟩
  | a :: l, h => by
    obtain ⟨h1, h2⟩ := filter_less l fun x hx => h x (List.mem_cons_of_mem _ hx)
    cases hq : q a with
    | true =>
      have hp := h a (List.mem_cons_self ..) hq
      rw [List.filter_cons_of_pos hq, List.filter_cons_of_pos hp, List.length_cons, List.length_cons]
      refine ⟨by omega, fun e x hx hpx => ?_⟩
      rcases List.mem_cons.mp hx with rfl | hx
      · exact hq
      · exact h2 (by omega) x hx hpx
    | false =>
      rw [List.filter_cons_of_neg (by rw [hq]; exact Bool.false_ne_true)]
      cases hp : p a with
      | true =>
        rw [List.filter_cons_of_pos hp, List.length_cons]
        exact ⟨by omega, fun e => absurd e (by omega)⟩
      | false =>
        rw [List.filter_cons_of_neg (by rw [hp]; exact Bool.false_ne_true)]
        refine ⟨h1, fun e x hx hpx => ?_⟩
        rcases List.mem_cons.mp hx with rfl | hx
        · rw [hp] at hpx; cases hpx
        · exact h2 e x hx hpx
def pairsN (n : Nat) : List (Nat × Nat) := (List.range n).flatMap fun i => (List.range n).map fun j => (i, j)
theorem mem_pairsN {n i j : Nat} : (i, j) ∈ pairsN n ↔ i < n ∧ j < n := by simp [pairsN]
theorem pairsN_len (n : Nat) : (pairsN n).length = n * n := by
  unfold pairsN
  rw [List.length_flatMap]
  have : ∀ l : List Nat, (l.map fun i => ((List.range n).map fun j => (i, j)).length).sum = l.length * n := fun l => by
    induction l with
    | nil => simp
    | cons a l ih => simp only [List.length_map, List.length_range, List.map_cons, List.sum_cons, List.length_cons] at ih ⊢; rw [ih, Nat.add_mul]; omega
  rw [this, List.length_range]
def eqs (rows : HRows) (k : Nat) : Nat := ((pairsN rows.length).filter fun p => decide (nth (partK rows k) p.1 = nth (partK rows k) p.2)).length
theorem eqs_less (k : Nat) (h : partK rows (k + 1) ≠ partK rows k) : eqs rows (k + 1) < eqs rows k := by
  have hf := filter_less (p := fun p : Nat × Nat => decide (nth (partK rows k) p.1 = nth (partK rows k) p.2)) (q := fun p : Nat × Nat => decide (nth (partK rows (k + 1)) p.1 = nth (partK rows (k + 1)) p.2)) (pairsN rows.length) fun x hx hq => by
    obtain ⟨h1, h2⟩ := mem_pairsN.mp hx
    exact decide_eq_true (P_down h1 h2 (of_decide_eq_true hq))
  refine Nat.lt_of_le_of_ne hf.1 fun e => h (P_fix fun a b ha hb hab => ?_)
  exact of_decide_eq_true (hf.2 e (a, b) (mem_pairsN.mpr ⟨ha, hb⟩) (decide_eq_true hab))
theorem stable_from (c : Nat) : ∀ k, eqs rows k ≤ c → (∀ j, j < k → partK rows (j + 1) ≠ partK rows j) → ∃ m, m ≤ k + c ∧ partK rows (m + 1) = partK rows m ∧ ∀ j, j < m → partK rows (j + 1) ≠ partK rows j := by
  induction c with
  | zero =>
    intro k hk hj
    by_cases e : partK rows (k + 1) = partK rows k
    · exact ⟨k, by omega, e, hj⟩
    · have := eqs_less k e; omega
  | succ c ih =>
    intro k hk hj
    by_cases e : partK rows (k + 1) = partK rows k
    · exact ⟨k, by omega, e, hj⟩
    · have hl := eqs_less k e
      obtain ⟨m, h1, h2, h3⟩ := ih (k + 1) (by omega) fun j hj2 => by
        by_cases q : j = k
        · rw [q]; exact e
        · exact hj j (by omega)
      exact ⟨m, by omega, h2, h3⟩
theorem stable_ex (h : rows.length ≤ 30) : ∃ m, Stable rows m := by
  obtain ⟨m, h1, h2, h3⟩ := stable_from (rows := rows) (eqs rows 0) 0 (Nat.le_refl _) fun j hj => by omega
  have h4 : eqs rows 0 ≤ rows.length * rows.length := by rw [← pairsN_len]; exact List.length_filter_le _ _
  have h5 : rows.length * rows.length ≤ 30 * 30 := Nat.mul_le_mul h h
  exact ⟨m, h2, h3, by omega⟩
/-! ### words -/
theorem word_ex {L : Nat} (hw : WfRows rows) (hr : ∀ r ∈ rows, r.length = L) : ∀ (r a b : Nat), a < rows.length → b < rows.length → nth (partK rows r) a ≠ nth (partK rows r) b → (∀ k, k < r → nth (partK rows k) a = nth (partK rows k) b) → ∃ w, WordOf rows r a b w
  | 0, a, b, ha, hb, hne, _ => by
    have h1 : ((rowAt rows a).map fun h => h.1) ≠ (rowAt rows b).map fun h => h.1 := fun z => hne ((P0_eq ha hb).mpr z)
    obtain ⟨n, fd⟩ := firstDiff_of _ _ (by rw [List.length_map, List.length_map, hr _ (rowAt_mem ha), hr _ (rowAt_mem hb)]) h1
    exact ⟨[n], .zero fd⟩
  | r + 1, a, b, ha, hb, hne, heq => by
    have h1 : ((rowAt rows a).map fun q => nth (partK rows r) q.2.toNat) ≠ (rowAt rows b).map fun q => nth (partK rows r) q.2.toNat := fun z => hne ((PS_eq ha hb).mpr ⟨heq r (by omega), z⟩)
    obtain ⟨n, fd⟩ := firstDiff_of _ _ (by rw [List.length_map, List.length_map, hr _ (rowAt_mem ha), hr _ (rowAt_mem hb)]) h1
    have na : n < (rowAt rows a).length := by simpa using fd.2.1
    have nb : n < (rowAt rows b).length := by simpa using fd.2.2.1
    have ga : (rowAt rows a)[n]? = some ((rowAt rows a).getD n ([], 0)) := by rw [List.getD_eq_getElem?_getD, List.getElem?_eq_getElem na]; rfl
    have gb : (rowAt rows b)[n]? = some ((rowAt rows b).getD n ([], 0)) := by rw [List.getD_eq_getElem?_getD, List.getElem?_eq_getElem nb]; rfl
    have fa := hw.fol _ (rowAt_mem ha) _ (List.mem_of_getElem? ga)
    have fb := hw.fol _ (rowAt_mem hb) _ (List.mem_of_getElem? gb)
    have hne2 : nth (partK rows r) (folAt rows a n) ≠ nth (partK rows r) (folAt rows b n) := by
      have h4 := fd.2.2.2
      rw [List.getElem?_map, List.getElem?_map, ga, gb] at h4
      exact fun z => h4 (congrArg some z)
    obtain ⟨w, hwo⟩ := word_ex hw hr r (folAt rows a n) (folAt rows b n) (by unfold folAt; omega) (by unfold folAt; omega) hne2 fun k hk => by
      have h5 := ((PS_eq ha hb).mp (heq (k + 1) (by omega))).2
      have h6 := congrArg (fun l => l[n]?) h5
      simp only [List.getElem?_map, ga, gb, Option.map_some] at h6
      exact Option.some.inj h6
    exact ⟨n :: w, .succ fd hwo⟩
theorem parts_ex {m a b : Nat} (h : nth (partK rows m) a ≠ nth (partK rows m) b) : ∃ r, Parts rows m r a b := by
  have key : ∀ c k, k + c = m → (∀ j, j < k → nth (partK rows j) a = nth (partK rows j) b) → ∃ r, Parts rows m r a b := by
    intro c
    induction c with
    | zero => intro k hk hj; exact ⟨k, by omega, by rw [show k = m by omega]; exact h, hj, h⟩
    | succ c ih =>
      intro k hk hj
      by_cases e : nth (partK rows k) a = nth (partK rows k) b
      · exact ih (k + 1) (by omega) fun j hj2 => by
          by_cases q : j = k
          · rw [q]; exact e
          · exact hj j (by omega)
      · exact ⟨k, by omega, e, hj, h⟩
  exact key m 0 (by omega) fun j hj => by omega
end
end TL
set_option Elab.async false
set_option linter.all false
set_option maxRecDepth 100000
/-! VA10: alike, alike_bells. -/
namespace TL
open PySem PySem.Spec PyProof.Rows L2
theorem okB_eq {z : Str} (h : okB z = true) : z = SX.S (("abcdef" : Str).cps.toList.filter fun k => decide (k ∈ z.cps.toList)) := of_decide_eq_true h
theorem okB_mem {z : Str} (h : okB z = true) {k : Nat} (hk : k ∈ z.cps.toList) : k ∈ ("abcdef" : Str).cps.toList := by
  rw [okB_eq h] at hk
  have h2 : k ∈ (SX.S (("abcdef" : Str).cps.toList.filter fun k => decide (k ∈ z.cps.toList))).cps.toList → k ∈ ("abcdef" : Str).cps.toList := fun q => (List.mem_filter.mp (show k ∈ List.filter _ _ from q)).1
  exact h2 hk
theorem okB_len {z : Str} (h : okB z = true) : z.cps.toList.length ≤ 6 := by
  rw [okB_eq h]
  exact Nat.le_trans (List.length_filter_le _ _) (by decide)
theorem goodB_of {z : Str} (h : okB z = true) (ho : En.ok z) : GoodB z := ⟨ho, h, by have := okB_len h; omega⟩
theorem okB_sg {k : Nat} (h : k ∈ ("abcdef" : Str).cps.toList) : okB (sg k) = true ∧ En.ok (sg k) := by
  have : ∀ k ∈ ("abcdef" : Str).cps.toList, okB (sg k) = true ∧ PyData.strOk (sg k) = true := by decide +kernel
  exact this k h
section
variable {c1 c2 : Car} {z : Str}
theorem rowsL_len (c : Car) (z : Str) : (rowsL c z).length = c.chg.states.length := by simp [rowsL]
theorem jointL_len (c1 c2 : Car) (z : Str) : (jointL c1 c2 z).length = c1.chg.states.length + c2.chg.states.length := by simp [jointL, rowsL_len]
theorem heardL_ok {z : Str} (h : En.ok z) (slots : Score) (v : Nat) : En.ok (heardL (slots.map (heardSlot z)) v) := by
  refine heard_ok fun q hq => ?_
  unfold heardL verseL at hq
  obtain ⟨r, _, hq⟩ := List.mem_flatMap.mp hq
  obtain ⟨p, hp, hq⟩ := List.mem_filterMap.mp hq
  by_cases e : p.1 = ("" : Str)
  · rw [if_pos e] at hq; cases hq
  · rw [if_neg e] at hq
    cases hq
    obtain ⟨s, _, hs⟩ := List.mem_map.mp (zipIdx_mem hp)
    exact hs ▸ heardSlot_ok h s
theorem hourL_ok (h : En.ok z) (c : Car) (e : Ent) : En.ok (hourL c z e) := by
  unfold hourL
  split
  · exact fun q hq => (by cases hq)
  · exact heardL_ok h _ _
theorem joint_rowlen (h1 : GoodCar c1) (h2 : GoodCar c2) (hl : c1.chg.letters = c2.chg.letters) : ∀ r ∈ jointL c1 c2 z, r.length = c1.chg.letters.cps.toList.length := by
  intro r hr
  rcases List.mem_append.mp hr with hr | hr
  · obtain ⟨s, hs, rfl⟩ := List.mem_map.mp hr
    unfold rowL
    rw [List.length_map, h1.row s hs]
  · obtain ⟨s, hs, rfl⟩ := List.mem_map.mp hr
    obtain ⟨s2, hs2, rfl⟩ := List.mem_map.mp hs
    unfold rowL shiftR
    rw [List.length_map, List.length_map, h2.row s2 hs2, hl]
theorem joint_wf (h1 : GoodCar c1) (h2 : GoodCar c2) (hl : c1.chg.letters = c2.chg.letters) (hz : En.ok z) : WfRows (jointL c1 c2 z) := by
  have a1 := h1.st.2
  have a2 := h2.st.2
  have a3 := h1.lt.2
  refine ⟨by rw [jointL_len]; omega, fun r hr => by rw [joint_rowlen h1 h2 hl r hr]; omega, fun r hr h hh => ?_, fun r hr h hh => ?_⟩
  · rw [jointL_len]
    rcases List.mem_append.mp hr with hr | hr
    · obtain ⟨s, hs, rfl⟩ := List.mem_map.mp hr
      obtain ⟨e, he, rfl⟩ := List.mem_map.mp hh
      have := (h1.ent s hs e he).1
      obtain ⟨g1, g2, _⟩ := this
      exact ⟨g1, by show e.f < _; omega⟩
    · obtain ⟨s, hs, rfl⟩ := List.mem_map.mp hr
      obtain ⟨s2, hs2, rfl⟩ := List.mem_map.mp hs
      obtain ⟨e, he, rfl⟩ := List.mem_map.mp hh
      obtain ⟨e2, he2, rfl⟩ := List.mem_map.mp he
      obtain ⟨g1, g2, _⟩ := (h2.ent s2 hs2 e2 he2).1
      exact ⟨by show (0 : Int) ≤ e2.f + _; omega, by show e2.f + _ < _; omega⟩
  · rcases List.mem_append.mp hr with hr | hr
    · obtain ⟨s, hs, rfl⟩ := List.mem_map.mp hr
      obtain ⟨e, he, rfl⟩ := List.mem_map.mp hh
      exact hourL_ok hz c1 e
    · obtain ⟨s, hs, rfl⟩ := List.mem_map.mp hr
      obtain ⟨s2, hs2, rfl⟩ := List.mem_map.mp hs
      obtain ⟨e, he, rfl⟩ := List.mem_map.mp hh
      obtain ⟨e2, he2, rfl⟩ := List.mem_map.mp he
      exact hourL_ok hz c2 e2
end
def AlikeRes (rows : HRows) (n : Nat) (ls : Str) (Q : D → Prop) : Prop := (∀ m, Stable rows m → nth (partK rows m) 0 = nth (partK rows m) n → Q (.tup [.str "alike", En.d (partK rows m)])) ∧ ∀ m r w, Stable rows m → Parts rows m r 0 n → WordOf rows r 0 n w → Q (.tup [.str "apart", .str (wordS ls w)])
theorem AlikeRes.mono {rows : HRows} {n : Nat} {ls : Str} {Q Q' : D → Prop} (w : ∀ d, Q d → Q' d) (h : AlikeRes rows n ls Q) : AlikeRes rows n ls Q' := ⟨fun m a b => w _ (h.1 m a b), fun m r x a b c => w _ (h.2 m r x a b c)⟩
/-- the three checks ahead -/
def Checked {G : Type} (c1 c2 : Car) (z : Str) (P : Prop) (g : G) (E : G → Str → List Str → List D → Prop) : Prop :=
  if okB z = true then (if decide (c1.chg.letters = c2.chg.letters) = true then (if decide (c1.size = c2.size) = true then P else E g "Unlike" ["field"] [.str "size"]) else E g "Unlike" ["field"] [.str "letters"]) else E g "BadBells" ["text"] [.str z]
theorem Checked.mono {G : Type} {c1 c2 : Car} {z : Str} {P P' : Prop} {g : G} {E E' : G → Str → List Str → List D → Prop} (w : okB z = true → c1.chg.letters = c2.chg.letters → c1.size = c2.size → P → P') (w' : ∀ cn ns es, E g cn ns es → E' g cn ns es) (h : Checked c1 c2 z P g E) : Checked c1 c2 z P' g E' := by
  unfold Checked at h ⊢
  cases e1 : okB z with
  | false => rw [e1, if_neg Bool.false_ne_true] at h; rw [if_neg Bool.false_ne_true]; exact w' _ _ _ h
  | true =>
    rw [e1, if_pos rfl] at h; rw [if_pos rfl]
    cases e2 : decide (c1.chg.letters = c2.chg.letters) with
    | false => rw [e2, if_neg Bool.false_ne_true] at h; rw [if_neg Bool.false_ne_true]; exact w' _ _ _ h
    | true =>
      rw [e2, if_pos rfl] at h; rw [if_pos rfl]
      cases e3 : decide (c1.size = c2.size) with
      | false => rw [e3, if_neg Bool.false_ne_true] at h; rw [if_neg Bool.false_ne_true]; exact w' _ _ _ h
      | true => rw [e3, if_pos rfl] at h; rw [if_pos rfl]; exact w e1 (of_decide_eq_true e2) (of_decide_eq_true e3) h
def SP_alike : TSp := fun b ds g Q E => ∃ (c1 c2 : Car) (z : Str), ds = [c1.d, c2.d, .str z] ∧ (GoodCar c1 ∧ GoodCar c2 ∧ En.ok z) ∧ Checked c1 c2 z (AlikeRes (jointL c1 c2 z) c1.chg.states.length c1.chg.letters fun d => Q d g) g E
theorem ok_alike : SpOk 3 SP_alike := ⟨fun b ds g Q E ⟨c, c2, z, e, _⟩ => by rw [e]; rfl, fun b ds g Q Q' E E' w w' ⟨c, c2, z, e, h, q⟩ => ⟨c, c2, z, e, h, q.mono (fun _ _ _ => AlikeRes.mono fun d => w d g) (w' g)⟩⟩
theorem v_alike (b : B) (ds g Q X) (h : SP_alike b ds g Q X) : VC (t_alike (b := b) SP_check_pair SP_joint_rows SP_row_partitions SP_Changer_len SP_row_word) ["one", "two", "bells", "rows", "found", "word"] ds g Q X := by
  obtain ⟨c1, c2, z, rfl, ⟨h1, h2, hz⟩, h⟩ := h
  have hb := sizeLine_big
  refine ⟨_, rfl, _, rfl, _, rfl, c1, c2, z, rfl, ⟨hz, h1.ok, h2.ok⟩, ?_⟩
  refine Checked.mono (fun e1 e2 e3 h => ?_) (fun _ _ _ z => z) h
  have hg := goodB_of e1 hz
  refine ⟨_, rfl, _, rfl, _, rfl, c1, c2, z, rfl, ⟨h1, h2, hg⟩, ?_⟩
  have hw := joint_wf h1 h2 e2 hz
  have hrl := joint_rowlen (z := z) h1 h2 e2
  have hlen := jointL_len c1 c2 z
  have a1 := h1.st
  have a2 := h2.st
  have a3 := h1.lt
  obtain ⟨m, hm⟩ := stable_ex (rows := jointL c1 c2 z) (by omega)
  refine ⟨_, rfl, _, m, rfl, ⟨hw, hm⟩, ?_⟩
  refine ⟨_, rfl, _, rfl, _, rfl, _, ⟨List.mem_cons_self .., rfl⟩, _, ⟨List.mem_cons_self .., rfl⟩, _, rfl, _, ⟨List.mem_cons_self .., rfl⟩, ⟨rfl, rfl⟩, c1.chg, rfl, c1.chg.states.length, rfl, by omega, ?_⟩
  refine ⟨jointL c1 c2 z, m, c1.chg.letters, 0, c1.chg.states.length, rfl, ⟨hw, hrl, by omega, by omega, by omega, hm.le⟩, ?_⟩
  by_cases he : nth (partK (jointL c1 c2 z) m) 0 = nth (partK (jointL c1 c2 z) m) c1.chg.states.length
  · refine .inl ⟨he, ?_⟩
    refine ⟨_, rfl, _, rfl, if1 rfl ?_⟩
    refine ⟨_, rfl, En.d (partK (jointL c1 c2 z) m), by show atI ((partsL _ m).map En.d) (-1) = _; rw [partsL_last]; exact atI_last _ _, Nat.le_trans (Nat.le_of_ble_eq_true rfl : 2 ≤ 1000000) hb, h.1 m hm he⟩
  · obtain ⟨r, hp⟩ := parts_ex he
    obtain ⟨w, hwo⟩ := word_ex hw hrl r 0 c1.chg.states.length (by omega) (by omega) hp.ne hp.eq
    refine .inr ⟨r, w, hp, hwo, ?_⟩
    refine ⟨_, rfl, _, rfl, if0 rfl ?_⟩
    exact ⟨_, rfl, rfl, Nat.le_trans (Nat.le_of_ble_eq_true rfl : 2 ≤ 1000000) hb, h.2 m r w hm hp hwo⟩
/-- the two carillons' states 0 stand in one block -/
def AlikeP (c1 c2 : Car) (z : Str) : Prop := ∃ m, Stable (jointL c1 c2 z) m ∧ nth (partK (jointL c1 c2 z) m) 0 = nth (partK (jointL c1 c2 z) m) c1.chg.states.length
theorem stable_one {rows : HRows} {m n : Nat} (h1 : Stable rows m) (h2 : Stable rows n) : m = n := by
  rcases Nat.lt_trichotomy m n with h | h | h
  · exact absurd h1.fix (h2.least m h)
  · exact h
  · exact absurd h2.fix (h1.least n h)
def SP_alike_bells : TSp := fun b ds g Q E => ∃ (c1 c2 : Car) (z : Str), ds = [c1.d, c2.d, .str z] ∧ (GoodCar c1 ∧ GoodCar c2 ∧ En.ok z) ∧ Checked c1 c2 z (∀ p : Nat → Bool, (∀ k ∈ z.cps.toList, p k = true ↔ AlikeP c1 c2 (sg k)) → Q (.str (SX.S (z.cps.toList.filter p))) g) g E
theorem ok_alike_bells : SpOk 3 SP_alike_bells := ⟨fun b ds g Q E ⟨c, c2, z, e, _⟩ => by rw [e]; rfl, fun b ds g Q Q' E E' w w' ⟨c, c2, z, e, h, q⟩ => ⟨c, c2, z, e, h, q.mono (fun _ _ _ h p hp => w _ _ (h p hp)) (w' g)⟩⟩
theorem v_alike_bells (b : B) (ds g Q X) (h : SP_alike_bells b ds g Q X) : VC (t_alike_bells (b := b) SP_check_pair SP_alike) ["one", "two", "bells", "bell"] ds g Q X := by
  obtain ⟨c1, c2, z, rfl, ⟨h1, h2, hz⟩, h⟩ := h
  have hb := sizeLine_big
  refine ⟨_, rfl, _, rfl, _, rfl, c1, c2, z, rfl, ⟨hz, h1.ok, h2.ok⟩, ?_⟩
  refine Checked.mono (fun e1 e2 e3 h => ?_) (fun _ _ _ z => z) h
  have hl := okB_len e1
  refine ⟨"", rfl, _, rfl, by simp [signs]; simp at hl; omega, ?_⟩
  classical
  refine lcL_signs 3 (Nat.le_of_ble_eq_true rfl) (fun k => decide (AlikeP c1 c2 (sg k))) z (fun k hk K q => ?_) ?_
  · obtain ⟨g1, g2⟩ := okB_sg (okB_mem e1 hk)
    refine ⟨_, rfl, _, rfl, _, rfl, c1, c2, sg k, rfl, ⟨h1, h2, g2⟩, ?_⟩
    unfold Checked
    rw [if_pos g1, if_pos (decide_eq_true e2), if_pos (decide_eq_true e3)]
    refine ⟨fun m hm he => ?_, fun m r w hm hp hwo => ?_⟩
    · rw [decide_eq_true (show AlikeP c1 c2 (sg k) from ⟨m, hm, he⟩)] at q
      exact ⟨_, atI_nat (i := 0) rfl, by
        dsimp only [tCon]
        refine oEq_en ("alike" : Str) "alike" (show PyData.strOk ("alike" : Str) = true by decide +kernel) (show PyData.strOk ("alike" : Str) = true by decide +kernel) (by decide) ⟨_, rfl, ?_⟩
        exact q⟩
    · rw [decide_eq_false (show ¬ AlikeP c1 c2 (sg k) from fun ⟨m', hm', he⟩ => hp.top (by rw [stable_one hm hm']; exact he))] at q
      exact ⟨_, atI_nat (i := 0) rfl, by
        dsimp only [tCon]
        refine oEq_en ("apart" : Str) "alike" (show PyData.strOk ("apart" : Str) = true by decide +kernel) (show PyData.strOk ("alike" : Str) = true by decide +kernel) (by decide) ⟨_, rfl, ?_⟩
        exact q⟩
  · exact oJoin_signs _ (Nat.le_trans (List.length_filter_le _ _) (by omega)) (h _ fun k _ => by simp)
end TL
set_option Elab.async false
set_option linter.all false
set_option maxRecDepth 100000
/-! VS1: the store. -/
namespace TL
open PySem PySem.Spec PyProof.Rows L2
/-- the store's lists: at p0, p1, es -/
structure ShapeAt (Γ : Addr → Prop) (g : Addr → List V) (p0 p1 : Addr) (es : List Addr) (first turn seed : Int) : Prop where
  g0 : Γ p0
  g1 : Γ p1
  v0 : g p0 = [.ref p1, .int first, .int turn, .int seed]
  v1 : g p1 = es.map V.ref
  fi : 0 ≤ first ∧ first ≤ (es.length : Nat) ∧ es.length ≤ 100
  ent : ∀ e ∈ es, Γ e ∧ ∃ x y, g e = [.int x, .int y]
def Shape (Γ : Addr → Prop) (g : Addr → List V) (p0 : Addr) : Prop := ∃ p1 es first turn seed, ShapeAt Γ g p0 p1 es first turn seed
def StoreOk (b : B) (g : b.G) (a : Addr) : Prop := ∃ (Γ : Addr → Prop) (h : b = storeB b.K Γ), Shape Γ (cast (congrArg B.G h) g) a
theorem storeOk_iff {K : PySem.W.Frag} {Γ : Addr → Prop} {g : Addr → List V} {a : Addr} : StoreOk (storeB K Γ) g a ↔ Shape Γ g a :=
  ⟨fun ⟨Γ', h, s⟩ => by
    have e : Γ = Γ' := congrArg B.Γ h
    subst e
    exact s, fun s => ⟨Γ, rfl, s⟩⟩
abbrev putG (g : Addr → List V) (a : Addr) (xs : List V) : Addr → List V := fun x => if x = a then xs else g x
theorem putG_same {g : Addr → List V} {a : Addr} {xs : List V} : putG g a xs a = xs := if_pos rfl
theorem putG_ne {g : Addr → List V} {a x : Addr} {xs : List V} (h : x ≠ a) : putG g a xs x = g x := if_neg h
section
variable {Γ : Addr → Prop} {g : Addr → List V} {p0 p1 : Addr} {es : List Addr} {first turn seed : Int}
theorem ShapeAt.ne (h : ShapeAt Γ g p0 p1 es first turn seed) : p1 ≠ p0 ∧ ∀ e ∈ es, e ≠ p0 ∧ e ≠ p1 := by
  refine ⟨fun z => ?_, fun e he => ⟨fun z => ?_, fun z => ?_⟩⟩
  · have := h.v1
    rw [z, h.v0] at this
    cases es with
    | nil => cases this
    | cons a l => cases l with
      | nil => cases this
      | cons b l => injection this with _ t; injection t with t _; cases t
  · obtain ⟨_, x, y, hv⟩ := h.ent e he
    rw [z, h.v0] at hv
    cases hv
  · obtain ⟨_, x, y, hv⟩ := h.ent e he
    rw [z, h.v1] at hv
    cases es with
    | nil => cases hv
    | cons a l => injection hv with t _; cases t
theorem ShapeAt.put0 (h : ShapeAt Γ g p0 p1 es first turn seed) (f t : Int) (hf : 0 ≤ f ∧ f ≤ (es.length : Nat)) : ShapeAt Γ (putG g p0 [.ref p1, .int f, .int t, .int seed]) p0 p1 es f t seed := by
  obtain ⟨n1, n2⟩ := h.ne
  exact ⟨h.g0, h.g1, putG_same, (putG_ne n1).trans h.v1, ⟨hf.1, hf.2, h.fi.2.2⟩, fun e he => ⟨(h.ent e he).1, by rw [putG_ne (n2 e he).1]; exact (h.ent e he).2⟩⟩
theorem ShapeAt.putE (h : ShapeAt Γ g p0 p1 es first turn seed) {e : Addr} (he : e ∈ es) (x y : Int) : ShapeAt Γ (putG g e [.int x, .int y]) p0 p1 es first turn seed := by
  obtain ⟨n1, n2⟩ := h.ne
  refine ⟨h.g0, h.g1, (putG_ne (n2 e he).1.symm).trans h.v0, (putG_ne (n2 e he).2.symm).trans h.v1, h.fi, fun e' he' => ⟨(h.ent e' he').1, ?_⟩⟩
  by_cases q : e' = e
  · subst q; exact ⟨x, y, putG_same⟩
  · rw [putG_ne q]; exact (h.ent e' he').2
end
def SP__law_mixed : TSp := fun b ds g Q E => ∃ i j m : Int, ds = [.int i, .int j, .int m] ∧ (0 < m ∧ m < 2 ^ 40) ∧ ∀ r : Int, 0 ≤ r → r < m → Q (.int r) g
theorem ok__law_mixed : SpOk 3 SP__law_mixed := ⟨fun b ds g Q E ⟨i, j, m, e, _⟩ => by rw [e]; rfl, fun b ds g Q Q' E E' w w' ⟨i, j, m, e, h, q⟩ => ⟨i, j, m, e, h, fun r h1 h2 => w _ _ (q r h1 h2)⟩⟩
def SP__law_take : TSp := fun b ds g Q E => ∃ (a : Addr) (m : Int), ds = [.hnd a, .int m] ∧ (m < 2 ^ 40 ∧ StoreOk b g a) ∧ ∀ (r : Int) g', StoreOk b g' a → 0 ≤ r → (r < m ∨ (m < 2 ∧ r = 0)) → Q (.int r) g'
theorem ok__law_take : SpOk 2 SP__law_take := ⟨fun b ds g Q E ⟨i, j, e, _⟩ => by rw [e]; rfl, fun b ds g Q Q' E E' w w' ⟨i, j, e, h, q⟩ => ⟨i, j, e, h, fun r g' h0 h1 h2 => w _ _ (q r g' h0 h1 h2)⟩⟩
theorem if1' {k : Bool} {p q : Prop} (h : k = true) (x : p) : if k = true then p else q := by rw [if_pos h]; exact x
theorem if0' {k : Bool} {p q : Prop} (h : k = false) (x : q) : if k = true then p else q := by rw [if_neg (by rw [h]; exact Bool.false_ne_true)]; exact x
theorem ifB {c : Prop} [Decidable c] {p q : Prop} (h1 : c → p) (h0 : ¬ c → q) : if decide c = true then p else q := by
  by_cases h : c
  · rw [if_pos (decide_eq_true h)]; exact h1 h
  · rw [if_neg (by rw [decide_eq_false h]; exact Bool.false_ne_true)]; exact h0 h
theorem atI_of' {α : Type} {xs : List α} {j : Int} {i : Nat} {a : α} (hj : j = (i : Int)) (h : xs[i]? = some a) : atI xs j = some a := by
  have hi : i < xs.length := (List.getElem?_eq_some_iff.mp h).1
  rw [hj]; unfold atI ixN; rw [if_pos (by omega), if_pos (by omega)]; simpa using h
def VC2 (_ : Int) : Prop := True
theorem at2 {α : Type} {a b c d : α} : atI [a, b, c, d] 2 = some c := rfl
theorem ixN_lt {n : Nat} {i : Int} (h0 : 0 ≤ i) (h : i < n) : ixN n i = some i.toNat := by unfold ixN; rw [if_pos h0, if_pos h]
theorem v__law_take {K : PySem.W.Frag} {Γ : Addr → Prop} (ds) (g : Addr → List V) (Q : D → (Addr → List V) → Prop) (X : (Addr → List V) → Str → List Str → List D → Prop) (h : SP__law_take (storeB K Γ) ds g Q X) : VC (t__law_take (b := storeB K Γ) (storeI K Γ) SP__law_mixed) ["store", "many", "cells", "first", "spot", "entry", "number"] ds g Q X := by
  obtain ⟨a, m, rfl, ⟨hm, hs⟩, h⟩ := h
  obtain ⟨p1, es, first, turn, seed, sh⟩ := storeOk_iff.mp hs
  have h' : ∀ (r : Int) (g' : Addr → List V), Shape Γ g' a → 0 ≤ r → (r < m ∨ (m < 2 ∧ r = 0)) → Q (.int r) g' := fun r g' s => h r g' (storeOk_iff.mpr s)
  clear h hs
  refine ⟨_, rfl, _, rfl, ifB (fun h2 => h' 0 g ⟨p1, es, first, turn, seed, sh⟩ (Int.le_refl _) (.inr ⟨h2, rfl⟩)) fun h2 => ?_⟩
  have hm0 : 0 < m := by omega
  -- store[2] = store[2] + 1
  refine ⟨_, rfl, a, 2, .int turn, rfl, rfl, sh.g0, by show atI (g a) 2 = _; rw [sh.v0]; rfl, rfl, ?_⟩
  refine ⟨a, rfl, turn + 1, 2, 2, rfl, rfl, sh.g0, by show ixN (g a).length 2 = _; rw [sh.v0]; rfl, ?_⟩
  have sh1 : ShapeAt Γ (putG g a [.ref p1, .int first, .int (turn + 1), .int seed]) a p1 es first (turn + 1) seed := sh.put0 first (turn + 1) ⟨sh.fi.1, sh.fi.2.1⟩
  have eg : (storeI K Γ).put g a (((storeI K Γ).val g a).set 2 (.int (turn + 1))) = putG g a [.ref p1, .int first, .int (turn + 1), .int seed] := by
    show putG g a ((g a).set 2 (.int (turn + 1))) = _
    rw [sh.v0]; rfl
  rw [eg]
  generalize putG g a [.ref p1, .int first, .int (turn + 1), .int seed] = g1 at sh1
  generalize turn + 1 = turn1 at sh1
  -- cells, first
  refine ⟨_, rfl, a, 0, .ref p1, rfl, rfl, sh1.g0, by show atI (g1 a) 0 = _; rw [sh1.v0]; rfl, rfl, ?_⟩
  refine ⟨_, rfl, a, 1, .int first, rfl, rfl, sh1.g0, by show atI (g1 a) 1 = _; rw [sh1.v0]; rfl, rfl, ?_⟩
  have hlen : ((storeI K Γ).val g1 p1).length = es.length := by show (g1 p1).length = _; rw [sh1.v1, List.length_map]
  have hf := sh1.fi
  refine ⟨_, rfl, _, rfl, p1, rfl, sh1.g1, ?_⟩
  rw [hlen]
  refine ⟨first, es.length, rfl, rfl, ⟨⟨by omega, by omega⟩, by omega, by omega⟩, ?_⟩
  unfold rngD
  refine forL_xs (fun i : Nat => D.int (first + (i : Nat))) (fun (rest : List Nat) ρ (g2 : Addr → List V) => (∀ i ∈ rest, first + (i : Int) < es.length) ∧ ∃ (f2 t2 : Int) (x4 x5 x6 : Option D), ShapeAt Γ g2 a p1 es f2 t2 seed ∧ ρ = [some (.hnd a), some (.int m), some (.hnd p1), some (.int first), x4, x5, x6]) _ _ _ (fun i rest ρ g2 K2 hK ⟨hi, f2, t2, x4, x5, x6, sh2, eρ⟩ => ?_) (fun ρ g2 ⟨_, f2, t2, x4, x5, x6, sh2, eρ⟩ => ?_) ⟨fun i hi => ?_, first, turn1, none, none, none, sh1, rfl⟩
  · subst eρ
    have hi0 := hi i (List.mem_cons_self ..)
    have hk : (first + (i : Int)).toNat < es.length := by omega
    obtain ⟨ge, x, y, hv⟩ := sh2.ent _ (List.getElem_mem hk)
    have hat : atI (g2 p1) (first + (i : Int)) = some (V.ref es[(first + (i : Int)).toNat]) := atI_of' (i := (first + (i : Int)).toNat) (by omega) (by rw [sh2.v1, List.getElem?_map, List.getElem?_eq_getElem hk]; rfl)
    refine ⟨_, rfl, _, rfl, p1, _, _, rfl, rfl, sh2.g1, hat, rfl, ?_⟩
    generalize hE : es[(first + (i : Int)).toNat] = e at ge hv
    have he : e ∈ es := hE ▸ List.getElem_mem hk
    have a0 : atI ((storeI K Γ).val g2 e) 0 = some (.int x) := by show atI (g2 e) 0 = _; rw [hv]; rfl
    have a1 : atI ((storeI K Γ).val g2 e) 1 = some (.int y) := by show atI (g2 e) 1 = _; rw [hv]; rfl
    have put_e : ∀ (j : Nat) (u x' y' : Int), ([V.int x, V.int y].set j (.int u)) = [.int x', .int y'] → (storeI K Γ).put g2 e (((storeI K Γ).val g2 e).set j (.int u)) = putG g2 e [.int x', .int y'] := fun j u x' y' hh => by
      show putG g2 e ((g2 e).set j (.int u)) = _
      rw [hv, hh]
    refine ⟨_, rfl, e, 1, _, rfl, rfl, ge, a1, rfl, _, rfl, ifB (fun hy => ⟨_, rfl, e, 0, _, rfl, rfl, ge, a0, rfl, _, rfl, ifB (fun hx => ?drain) (fun hx => ?blkA)⟩) (fun hy => if0' rfl ?blkB)⟩
    case drain =>
      refine ⟨_, rfl, e, 0, _, rfl, rfl, ge, a0, rfl, _, rfl, hm0, ?_⟩
      refine ⟨_, rfl, e, 0, _, rfl, rfl, ge, a0, rfl, _, rfl, ⟨hm0, ?_⟩, ?_⟩
      · have h3 : m.natAbs < 2 ^ 9000 := Nat.lt_of_lt_of_le (show m.natAbs < 2 ^ 40 by omega) (Nat.pow_le_pow_right (by decide) (by decide))
        exact (Nat.log2_lt (by omega)).mpr h3
      refine ⟨e, rfl, x / m, 0, 0, rfl, rfl, ge, by show ixN (g2 e).length 0 = _; rw [hv]; rfl, ?_⟩
      rw [put_e 0 (x / m) (x / m) y rfl]
      exact ⟨_, rfl, rfl, h' (x % m) _ ⟨p1, es, f2, t2, seed, sh2.putE he _ _⟩ (Int.emod_nonneg _ (by omega)) (.inl (Int.emod_lt_of_pos _ hm0))⟩
    all_goals
      refine ⟨_, rfl, e, 1, _, rfl, rfl, ge, a1, rfl, _, rfl, ifB (fun hy2 => ?_) (fun hy2 => ?_)⟩
      · refine ⟨_, rfl, e, 1, _, rfl, rfl, ge, a1, rfl, ?_⟩
        refine ⟨e, rfl, y - 1, 1, 1, rfl, rfl, ge, by show ixN (g2 e).length 1 = _; rw [hv]; rfl, ?_⟩
        rw [put_e 1 (y - 1) x (y - 1) rfl]
        have sh3 := sh2.putE he x (y - 1)
        have hv3 : putG g2 e [.int x, .int (y - 1)] e = [.int x, .int (y - 1)] := putG_same
        generalize putG g2 e [.int x, .int (y - 1)] = g3 at sh3 hv3
        exact ⟨_, rfl, e, 0, .int x, rfl, rfl, ge, by show atI (g3 e) 0 = _; rw [hv3]; rfl, rfl, _, rfl, a, 2, .int t2, rfl, rfl, sh3.g0, by show atI (g3 a) 2 = _; rw [sh3.v0]; rfl, rfl, _, rfl, x, t2, m, rfl, ⟨hm0, hm⟩, fun r h0 h1 => h' r g3 ⟨p1, es, f2, t2, seed, sh3⟩ h0 (.inl h1)⟩
      · refine ⟨_, rfl, a, rfl, first + (i : Nat) + 1, 1, 1, rfl, rfl, sh2.g0, by show ixN (g2 a).length 1 = _; rw [sh2.v0]; rfl, hK _ _ ⟨fun i hi2 => hi i (List.mem_cons_of_mem _ hi2), first + (i : Nat) + 1, t2, _, _, _, ?_, rfl⟩⟩
        have ep : (storeI K Γ).put g2 a (((storeI K Γ).val g2 a).set 1 (.int (first + (i : Nat) + 1))) = putG g2 a [.ref p1, .int (first + (i : Nat) + 1), .int t2, .int seed] := by
          show putG g2 a ((g2 a).set 1 (.int (first + (i : Nat) + 1))) = _
          rw [sh2.v0]; rfl
        rw [ep]
        exact sh2.put0 _ _ ⟨by omega, by omega⟩
  · subst eρ
    exact ⟨_, rfl, a, 3, .int seed, rfl, rfl, sh2.g0, by show atI (g2 a) 3 = _; rw [sh2.v0]; rfl, rfl, _, rfl, a, 2, .int t2, rfl, rfl, sh2.g0, by show atI (g2 a) 2 = _; rw [sh2.v0]; rfl, rfl, _, rfl, seed, t2, m, rfl, ⟨hm0, hm⟩, fun r h0 h1 => h' r g2 ⟨p1, es, f2, t2, seed, sh2⟩ h0 (.inl h1)⟩
  · simp at hi
    omega
end TL
set_option Elab.async false
set_option linter.all false
set_option maxRecDepth 100000
/-! VS2: mixing, picking. -/
namespace TL
open PySem PySem.Spec PyProof.Rows L2
def SP__law_mix : TSp := fun b ds g Q E => ∃ i j : Int, ds = [.int i, .int j] ∧ ∀ r : Int, 0 ≤ r → r < 2147483647 → Q (.int r) g
theorem ok__law_mix : SpOk 2 SP__law_mix := ⟨fun b ds g Q E ⟨i, j, e, _⟩ => by rw [e]; rfl, fun b ds g Q Q' E E' w w' ⟨i, j, e, q⟩ => ⟨i, j, e, fun r h1 h2 => w _ _ (q r h1 h2)⟩⟩
theorem cmulR {i j : Int} (h : -(2 ^ 64) < j ∧ j < 2 ^ 64) : CMul i j ∨ CMulW i j := .inl (.inr h)
theorem cmulL {i j : Int} (h : -(2 ^ 64) < i ∧ i < 2 ^ 64) : CMul i j ∨ CMulW i j := .inl (.inl h)
theorem v__law_mix (b : B) (ds g Q X) (h : SP__law_mix b ds g Q X) : VC (t__law_mix (b := b)) ["one", "two", "first", "second"] ds g Q X := by
  obtain ⟨i, j, rfl, h⟩ := h
  refine ⟨_, rfl, cmulR (by decide), _, rfl, cmulR (by decide), by decide, ?_⟩
  have f0 := Int.emod_nonneg (i * 48271 + j * 69621 + 977) (show (2147483647 : Int) ≠ 0 by decide)
  have f1 := Int.emod_lt_of_pos (i * 48271 + j * 69621 + 977) (show (0 : Int) < 2147483647 by decide)
  generalize (i * 48271 + j * 69621 + 977) % 2147483647 = f at f0 f1
  refine ⟨_, rfl, _, rfl, cmulL ⟨by omega, by omega⟩, _, rfl, cmulR ⟨by omega, by omega⟩, _, rfl, cmulR (by decide), by decide, ?_⟩
  have s0 := Int.emod_nonneg (f * f + 40692 * f + j * 7919 + 1) (show (2147483629 : Int) ≠ 0 by decide)
  have s1 := Int.emod_lt_of_pos (f * f + 40692 * f + j * 7919 + 1) (show (0 : Int) < 2147483629 by decide)
  generalize (f * f + 40692 * f + j * 7919 + 1) % 2147483629 = s at s0 s1
  refine ⟨_, rfl, _, rfl, cmulL ⟨by omega, by omega⟩, ⟨by decide, by decide⟩, _, rfl, cmulR (by decide), _, rfl, by decide, ?_⟩
  have t1 := Int.emod_lt_of_pos (s * s / 1009 + f * 16807 + j) (show (0 : Int) < 2147483587 by decide)
  exact h _ (Int.emod_nonneg _ (by decide)) (by omega)
theorem v__law_mixed (b : B) (ds g Q X) (h : SP__law_mixed b ds g Q X) : VC (t__law_mixed (b := b) SP__law_mix) ["cell", "turn", "many", "number", "reach", "step"] ds g Q X := by
  obtain ⟨i, j, m, rfl, ⟨hm0, hm⟩, h⟩ := h
  refine ⟨_, rfl, _, rfl, i, j, rfl, fun n hn0 hn1 => ?_⟩
  refine ⟨8, rfl, ⟨by decide, by decide⟩, ?_⟩
  have fin : ∀ (n r : Int) (x : Option D), tRetT (tOpT oMod (tCallO oInt (tConsT (tVarT 3) tNilT)) (tVarT 2)) { nx := fun _ g => Q .non g, rt := Q } (fun _ => X) [some (.int i), some (.int j), some (.int m), some (.int n), some (.int r), x] g := fun n r x =>
    ⟨_, rfl, _, rfl, hm0, h _ (Int.emod_nonneg _ (by omega)) (Int.emod_lt_of_pos _ hm0)⟩
  unfold rngD
  refine forL_xs (fun k : Nat => D.int ((0 : Int) + (k : Nat))) (fun (rest : List Nat) ρ g2 => g2 = g ∧ (∀ k ∈ rest, k < 8) ∧ ∃ (n r : Int) (x5 : Option D), ρ = [some (.int i), some (.int j), some (.int m), some (.int n), some (.int r), x5]) _ _ _ (fun k rest ρ g2 K2 hK ⟨eg, hk, n, r, x5, eρ⟩ => ?_) (fun ρ g2 ⟨eg, _, n, r, x5, eρ⟩ => ?_) ⟨rfl, fun k hk => by simpa using hk, n, 2147483587, none, rfl⟩
  · subst eg eρ
    have hk8 := hk k (List.mem_cons_self ..)
    refine ⟨_, rfl, _, rfl, cmulR (by decide), _, rfl, ifB (fun _ => fin _ _ _) fun _ => ?_⟩
    refine ⟨_, rfl, cmulR (by decide), _, rfl, _, rfl, cmulL (by decide), _, rfl, cmulR (by decide), _, rfl, _, _, rfl, fun n2 _ _ => ?_⟩
    refine ⟨_, rfl, cmulR (by decide), ?_⟩
    exact hK _ _ ⟨rfl, fun k hk2 => hk k (List.mem_cons_of_mem _ hk2), _, _, _, rfl⟩
  · subst eg eρ
    exact fin n r x5
def SP__law_pick : TSp := fun b ds g Q E => ∃ (a : Addr) (xs : List D), ds = [.hnd a, .lst xs] ∧ (1 ≤ xs.length ∧ xs.length ≤ 1000 ∧ StoreOk b g a ∧ ∀ d ∈ xs, d.top = false) ∧ ∀ d g', d ∈ xs → StoreOk b g' a → Q d g'
theorem ok__law_pick : SpOk 2 SP__law_pick := ⟨fun b ds g Q E ⟨i, j, e, _⟩ => by rw [e]; rfl, fun b ds g Q Q' E E' w w' ⟨i, j, e, h, q⟩ => ⟨i, j, e, h, fun d g' h1 h2 => w _ _ (q d g' h1 h2)⟩⟩
theorem v__law_pick (b : B) (ds g Q X) (h : SP__law_pick b ds g Q X) : VC (t__law_pick (b := b) SP__law_take) ["store", "row"] ds g Q X := by
  obtain ⟨a, xs, rfl, ⟨h1, h2, hs, ht⟩, h⟩ := h
  refine ⟨_, rfl, _, rfl, _, rfl, a, _, rfl, ⟨by omega, hs⟩, fun r g' hs' h0 hr => ?_⟩
  have hi : r.toNat < xs.length := by omega
  exact ⟨xs[r.toNat], atI_of (i := r.toNat) (by omega) (by simp [hi]), ht _ (List.getElem_mem hi), h _ _ (List.getElem_mem hi) hs'⟩
def SP__law_near : TSp := fun b ds g Q E => ∃ (a : Addr) (lo hi : Int), ds = [.hnd a, .int lo, .int hi] ∧ (lo ≤ hi ∧ hi - lo < 1000 ∧ StoreOk b g a) ∧ ∀ (r : Int) g', lo ≤ r → r ≤ hi → StoreOk b g' a → Q (.int r) g'
theorem ok__law_near : SpOk 3 SP__law_near := ⟨fun b ds g Q E ⟨i, j, k, e, _⟩ => by rw [e]; rfl, fun b ds g Q Q' E E' w w' ⟨i, j, k, e, h, q⟩ => ⟨i, j, k, e, h, fun d g' h1 h2 h3 => w _ _ (q d g' h1 h2 h3)⟩⟩
theorem v__law_near (b : B) (ds g Q X) (h : SP__law_near b ds g Q X) : VC (t__law_near (b := b) SP__law_take SP__law_pick) ["store", "low", "high", "free"] ds g Q X := by
  obtain ⟨a, lo, hi, rfl, ⟨h1, h2, hs⟩, h⟩ := h
  refine ⟨_, rfl, _, rfl, _, rfl, _, rfl, a, _, rfl, ⟨by omega, hs⟩, fun r g' hs' h0 hr => ?_⟩
  refine ⟨_, rfl, _, rfl, rfl, _, rfl, rfl, _, rfl, _, rfl, _, rfl, _, rfl, _, rfl, rfl, _, rfl, rfl, _, rfl, rfl, _, rfl, rfl, Nat.le_trans (Nat.le_of_ble_eq_true rfl : 8 ≤ 1000000) sizeLine_big, a, _, rfl, ⟨by simp, by simp, hs', fun d hd => ?_⟩, fun d g2 hd hs2 => ?_⟩
  · simp at hd
    rcases hd with rfl | rfl | rfl | rfl | rfl <;> rfl
  · simp at hd
    rcases hd with rfl | rfl | rfl | rfl | rfl
    · exact h _ _ (Int.le_refl _) h1 hs2
    · exact h _ _ h1 (Int.le_refl _) hs2
    · exact h _ _ (by split <;> omega) (by split <;> omega) hs2
    · exact h _ _ (by split <;> omega) (by split <;> omega) hs2
    · exact h _ _ (by omega) (by omega) hs2
def SP__law_handed : TSp := fun b ds g Q E => ∃ (a : Addr) (xs : List D), ds = [.hnd a, .tup xs] ∧ StoreOk b g a ∧ ∀ d g', SeqD xs d → StoreOk b g' a → Q d g'
theorem ok__law_handed : SpOk 2 SP__law_handed := ⟨fun b ds g Q E ⟨i, j, e, _⟩ => by rw [e]; rfl, fun b ds g Q Q' E E' w w' ⟨i, j, e, h, q⟩ => ⟨i, j, e, h, fun d g' h1 h2 => w _ _ (q d g' h1 h2)⟩⟩
theorem v__law_handed (b : B) (ds g Q X) (h : SP__law_handed b ds g Q X) : VC (t__law_handed (b := b) SP__law_take) ["store", "row"] ds g Q X := by
  obtain ⟨a, xs, rfl, hs, h⟩ := h
  refine ⟨_, rfl, a, 2, rfl, ⟨by decide, hs⟩, fun r g' hs' h0 hr => ?_⟩
  dsimp only [tCon]
  refine oEq_en r 0 trivial trivial (by decide) ⟨_, rfl, ifB (fun _ => ⟨_, rfl, h _ _ (.inr rfl) hs'⟩) fun _ => ⟨_, rfl, h _ _ (.inl rfl) hs'⟩⟩
end TL
set_option Elab.async false
set_option linter.all false
set_option maxRecDepth 100000
/-! VS3: bells drawn, scores delayed, carillons made. -/
namespace TL
open PySem PySem.Spec PyProof.Rows L2
theorem lcL_inv {G : Type} {α : Type} {gt : TTG} {tt : TTB G} {te : TTE G} {ρ : Rho} {Q : List D → G → Prop} (enc : α → D) (I : List α → List D → G → Prop) : ∀ (xs : List α) (acc : List D) (g : G),
    (∀ x rest acc g (K1 : D → G → Prop) (K0 : G → Prop), I (x :: rest) acc g → (∀ y g', I rest (acc ++ [y]) g' → K1 y g') → (∀ g', I rest acc g' → K0 g') → gt (enc x) ρ fun ρ' => tt ρ' g noX fun k g1 => if k = true then te ρ' g1 noX K1 else K0 g1) →
    (∀ acc g, I [] acc g → Q acc g) → I xs acc g → lcL gt tt te ρ Q (xs.map enc) acc g
  | [], acc, g, h, he, q => he _ _ q
  | x :: xs, acc, g, h, he, q => h x xs acc g _ _ q (fun y g' q => lcL_inv enc I xs _ g' h he q) fun g' q => lcL_inv enc I xs _ g' h he q
/-- some of the bells, in order -/
def GoodBells (z : Str) : Prop := ∃ ks : List Nat, ks.Sublist ("abcdef" : Str).cps.toList ∧ z = SX.S ks
def SP__law_bells_in : TSp := fun b ds g Q E => ∃ (a : Addr), ds = [.hnd a] ∧ StoreOk b g a ∧ ∀ (z : Str) g', GoodBells z → StoreOk b g' a → Q (.str z) g'
theorem ok__law_bells_in : SpOk 1 SP__law_bells_in := ⟨fun b ds g Q E ⟨i, e, _⟩ => by rw [e]; rfl, fun b ds g Q Q' E E' w w' ⟨i, e, h, q⟩ => ⟨i, e, h, fun d g' h1 h2 => w _ _ (q d g' h1 h2)⟩⟩
theorem v__law_bells_in (b : B) (ds g Q X) (h : SP__law_bells_in b ds g Q X) : VC (t__law_bells_in (b := b) SP__law_take) ["store", "bell"] ds g Q X := by
  obtain ⟨a, rfl, hs, h⟩ := h
  refine ⟨"", rfl, by simp [signs]; decide, ?_⟩
  unfold signs
  refine lcL_inv (fun k => D.str (sg k)) (fun rest acc g1 => StoreOk b g1 a ∧ ∃ ks ks' : List Nat, acc = (ks.map sg).map D.str ∧ ks' ++ rest = ("abcdef" : Str).cps.toList ∧ ks.Sublist ks') _ _ _ (fun k rest acc g1 K1 K0 ⟨hs1, ks, ks', e1, e2, e3⟩ h1 h0 => ?_) (fun acc g1 ⟨hs1, ks, ks', e1, e2, e3⟩ => ?_) ⟨hs, [], [], rfl, rfl, List.Sublist.refl _⟩
  · refine ⟨_, rfl, a, 2, rfl, ⟨by decide, hs1⟩, fun r g2 hs2 _ _ => ?_⟩
    dsimp only [tCon]
    refine oEq_en r 0 trivial trivial (by decide) ⟨_, rfl, ifB (fun _ => ⟨_, rfl, rfl, h1 _ _ ⟨hs2, ks ++ [k], ks' ++ [k], by rw [e1]; simp, by rw [← e2]; simp, List.Sublist.append e3 (List.Sublist.refl _)⟩⟩) fun _ => h0 _ ⟨hs2, ks, ks' ++ [k], e1, by rw [← e2]; simp, e3.trans (List.sublist_append_left _ _)⟩⟩
  · rw [List.append_nil] at e2
    subst e2
    rw [e1]
    exact oJoin_signs ks (Nat.le_trans e3.length_le (by decide)) (h _ _ ⟨ks, e3, rfl⟩ hs1)
def SP__law_delayed : TSp := fun b ds g Q E => ∃ (sc : Score) (s : Int), ds = [En.d sc, .int s] ∧ (1 ≤ sc.length ∧ sc.length ≤ 1000) ∧ ∀ sc' : Score, sc'.length = sc.length → (∀ x ∈ sc', x ∈ sc) → Q (En.d sc') g
theorem ok__law_delayed : SpOk 2 SP__law_delayed := ⟨fun b ds g Q E ⟨i, j, e, _⟩ => by rw [e]; rfl, fun b ds g Q Q' E E' w w' ⟨i, j, e, h, q⟩ => ⟨i, j, e, h, fun d h1 h2 => w _ _ (q d h1 h2)⟩⟩
theorem v__law_delayed (b : B) (ds g Q X) (h : SP__law_delayed b ds g Q X) : VC (t__law_delayed (b := b)) ["score", "shift", "span", "k"] ds g Q X := by
  obtain ⟨sc, s, rfl, ⟨h1, h2⟩, h⟩ := h
  have hb := sizeLine_big
  refine ⟨_, rfl, _, rfl, sc.length, by simp, ⟨by omega, by omega⟩, by simp [rngD]; omega, ?_⟩
  simp only [Int.toNat_natCast]
  unfold rngD
  refine lcL_inv (fun k : Nat => D.int ((0 : Int) + (k : Nat))) (fun rest acc g1 => g1 = g ∧ ∃ sc' : Score, acc = sc'.map En.d ∧ sc'.length + rest.length = sc.length ∧ ∀ x ∈ sc', x ∈ sc) _ _ _ (fun k rest acc g1 K1 K0 ⟨eg, sc', e1, e2, e3⟩ h1' h0 => ?_) (fun acc g1 ⟨eg, sc', e1, e2, e3⟩ => ?_) ⟨rfl, [], rfl, by simp, fun x hx => by simp at hx⟩
  · subst eg
    have hn : (((sc.map (En.d (α := List Str))).length : Nat) : Int) = (sc.length : Nat) := by simp
    refine ⟨_, rfl, _, rfl, _, rfl, _, rfl, by omega, ?_⟩
    have m0 := Int.emod_nonneg ((0 : Int) + (k : Nat) - s) (show (((sc.map (En.d (α := List Str))).length : Nat) : Int) ≠ 0 by omega)
    have m1 := Int.emod_lt_of_pos ((0 : Int) + (k : Nat) - s) (show 0 < (((sc.map (En.d (α := List Str))).length : Nat) : Int) by omega)
    generalize ((0 : Int) + (k : Nat) - s) % (((sc.map (En.d (α := List Str))).length : Nat) : Int) = r at m0 m1
    have hr : r.toNat < sc.length := by omega
    refine ⟨En.d sc[r.toNat], atI_of (i := r.toNat) (by omega) (by rw [List.getElem?_map, List.getElem?_eq_getElem hr]; rfl), h1' _ _ ⟨rfl, sc' ++ [sc[r.toNat]], by rw [e1]; simp, ?_, fun x hx => ?_⟩⟩
    · simp at e2 ⊢; omega
    · rcases List.mem_append.mp hx with hx | hx
      · exact e3 x hx
      · rw [List.mem_singleton.mp hx]; exact List.getElem_mem hr
  · subst eg e1
    exact h sc' (by simpa using e2) e3
end TL
set_option Elab.async false
set_option linter.all false
set_option maxRecDepth 100000
/-! VS4: letters drawn. -/
namespace TL
open PySem PySem.Spec PyProof.Rows L2
abbrev abc : List Nat := ("abcdefghijklmnopqrstuvwxyz" : Str).cps.toList
structure GoodLetters (ks : List Nat) : Prop where
  lo : 1 ≤ ks.length
  hi : ks.length ≤ 3
  mem : ∀ k ∈ ks, k ∈ abc
  nd : ks.Nodup
def SP__law_letters : TSp := fun b ds g Q E => ∃ (a : Addr), ds = [.hnd a] ∧ StoreOk b g a ∧ ∀ (ks : List Nat) g', GoodLetters ks → StoreOk b g' a → Q (.str (SX.S ks)) g'
theorem ok__law_letters : SpOk 1 SP__law_letters := ⟨fun b ds g Q E ⟨i, e, _⟩ => by rw [e]; rfl, fun b ds g Q Q' E E' w w' ⟨i, e, h, q⟩ => ⟨i, e, h, fun d g' h1 h2 => w _ _ (q d g' h1 h2)⟩⟩
theorem erase_split {α : Type} : ∀ {l : List α} {i : Nat} {x : α}, l[i]? = some x → ∃ l1 l2, l = l1 ++ x :: l2 ∧ l.eraseIdx i = l1 ++ l2
  | [], i, x, h => by simp at h
  | y :: l, 0, x, h => by simp at h; subst h; exact ⟨[], l, rfl, rfl⟩
  | y :: l, i + 1, x, h => by
    obtain ⟨l1, l2, e1, e2⟩ := erase_split (l := l) (i := i) (by simpa using h)
    exact ⟨y :: l1, l2, by rw [e1]; rfl, by simp [e2]⟩
theorem eraseIdx_map {α β : Type} (f : α → β) : ∀ (l : List α) (i : Nat), (l.map f).eraseIdx i = (l.eraseIdx i).map f
  | [], i => rfl
  | y :: l, 0 => rfl
  | y :: l, i + 1 => by simp [eraseIdx_map f l i]
theorem v__law_letters (b : B) (ds g Q X) (h : SP__law_letters b ds g Q X) : VC (t__law_letters (b := b) SP__law_take) ["store", "pool", "found", "k"] ds g Q X := by
  obtain ⟨a, rfl, hs, h⟩ := h
  have hb := sizeLine_big
  refine ⟨Nat.le_trans (by decide) hb, ?_⟩
  refine ⟨_, rfl, a, 3, rfl, ⟨by decide, hs⟩, fun r g1 hs1 h0 hr => ?_⟩
  have hr3 : r < 3 := by omega
  refine ⟨1 + r, rfl, ⟨by omega, by omega⟩, ?_⟩
  unfold rngD
  refine forL_xs (fun k : Nat => D.int ((0 : Int) + (k : Nat))) (fun (rest : List Nat) ρ g2 => StoreOk b g2 a ∧ ∃ (ps fs : List Nat) (x3 : Option D), ρ = [some (.hnd a), some (.lst (ps.map fun k => D.str (sg k))), some (.str (SX.S fs)), x3] ∧ (fs ++ ps).Nodup ∧ (∀ k ∈ fs ++ ps, k ∈ abc) ∧ fs.length + ps.length = 26 ∧ fs.length + rest.length = (1 + r).toNat) _ _ _ (fun k rest ρ g2 K hK ⟨hs2, ps, fs, x3, eρ, hn, hm, hl, hc⟩ => ?_) (fun ρ g2 ⟨hs2, ps, fs, x3, eρ, hn, hm, hl, hc⟩ => ?_) ⟨hs1, abc, [], none, rfl, by decide +kernel, fun k hk => by simpa using hk, by decide +kernel, by simp⟩
  · subst eρ
    simp only [List.length_cons] at hc
    refine ⟨_, rfl, ⟨_, rfl⟩, _, rfl, _, rfl, a, _, rfl, ⟨by simp; omega, hs2⟩, fun i g3 hs3 hi0 hi1 => ?_⟩
    simp only [List.length_map] at hi1
    have hip : i.toNat < ps.length := by omega
    obtain ⟨l1, l2, e1, e2⟩ := erase_split (l := ps) (i := i.toNat) (x := ps[i.toNat]) (by simp [hip])
    have hw : ps[i.toNat]? = some ps[i.toNat] := by simp [hip]
    generalize ps[i.toNat] = w at e1 hw
    have perm : (fs ++ [w] ++ (l1 ++ l2)).Perm (fs ++ ps) := by
      rw [e1, List.append_assoc]
      exact List.Perm.append_left fs (show (w :: (l1 ++ l2)).Perm (l1 ++ w :: l2) from List.perm_middle.symm)
    refine ⟨i, _, i.toNat, sg w, rfl, ⟨by omega, by omega⟩, rfl, ixN_lt hi0 (by simp; omega), ?_, ?_, ?_⟩
    · rw [List.getElem?_map, hw]; rfl
    · rw [SX.S_len]
      show _ + 1 ≤ _
      omega
    · refine hK _ _ ⟨hs3, l1 ++ l2, fs ++ [w], some (.int ((0 : Int) + (k : Nat))), ?_, perm.nodup_iff.mpr hn, fun k hk => hm k (perm.mem_iff.mp hk), ?_, ?_⟩
      · have e3 : SX.S fs ++ sg w = SX.S (fs ++ [w]) := SX.S_cat fs [w]
        rw [eraseIdx_map, e2, e3]
        rfl
      · have := perm.length_eq
        simp only [List.length_append] at this ⊢
        omega
      · simp only [List.length_append, List.length_cons, List.length_nil]
        omega
  · subst eρ
    simp only [List.length_nil] at hc
    refine ⟨_, rfl, rfl, h fs _ ⟨by omega, by omega, fun k hk => hm k (List.mem_append_left _ hk), (List.nodup_append.mp hn).1⟩ hs2⟩
end TL
set_option Elab.async false
set_option linter.all false
set_option maxRecDepth 100000
/-! VS5: changers and carillons made. -/
namespace TL
open PySem PySem.Spec PyProof.Rows L2
structure GoodChg (c : Chg) : Prop where
  lt : ∃ ks, GoodLetters ks ∧ c.letters = SX.S ks
  st : 1 ≤ c.states.length ∧ c.states.length ≤ 6
  row : ∀ r ∈ c.states, r.length = c.letters.cps.toList.length
  ent : ∀ r ∈ c.states, ∀ e ∈ r, GoodEnt c.states.length e
def SP_are_letters : TSp := fun b ds g Q E => ∃ ks : List Nat, ds = [.str (SX.S ks)] ∧ GoodLetters ks ∧ Q (.bl true) g
theorem ok_are_letters : SpOk 1 SP_are_letters := ⟨fun b ds g Q E ⟨i, e, _⟩ => by rw [e]; rfl, fun b ds g Q Q' E E' w w' ⟨i, e, h, q⟩ => ⟨i, e, h, w _ _ q⟩⟩
theorem abc_le : ∀ k ∈ abc, (!decide (([k] : List Nat) < ("a" : Str).cps.toList)) = true ∧ (!decide (("z" : Str).cps.toList < ([k] : List Nat))) = true := by decide +kernel
theorem v_are_letters (b : B) (ds g Q X) (h : SP_are_letters b ds g Q X) : VC (t_are_letters (b := b)) ["text", "sign"] ds g Q X := by
  obtain ⟨ks, rfl, hk, h⟩ := h
  have hb := sizeLine_big
  have h3 := hk.hi
  refine ⟨_, rfl, by simp [signs]; omega, ?_⟩
  unfold signs
  refine lcL_map (fun k => D.str (sg k)) (fun _ => D.bl true) ks [] (fun k hk1 K1 q => ?_) ⟨ks.map fun _ => true, by simp, ?_⟩
  · obtain ⟨a1, a2⟩ := abc_le k (hk.mem k hk1)
    refine ⟨_, rfl, _, rfl, if1 a1 ?_⟩
    show K1 (.bl (!decide (("z" : Str).cps.toList < ([k] : List Nat)))) g
    rw [a2]
    exact q
  · rw [all_true]
    exact h
def SP_check_changer : TSp := fun b ds g Q E => ∃ (c : Chg) (d : D), ds = [.str c.letters, d] ∧ SeqD (c.states.map En.d) d ∧ GoodChg c ∧ Q .non g
theorem ok_check_changer : SpOk 2 SP_check_changer := ⟨fun b ds g Q E ⟨c, d, e, _⟩ => by rw [e]; rfl, fun b ds g Q Q' E E' w w' ⟨c, d, e, h, h2, q⟩ => ⟨c, d, e, h, h2, w _ _ q⟩⟩
def SP_Changer : TSp := fun b ds g Q E => ∃ (c : Chg) (d : D), ds = [.str c.letters, d] ∧ SeqD (c.states.map En.d) d ∧ GoodChg c ∧ Q c.d g
theorem ok_Changer : SpOk 2 SP_Changer := ⟨fun b ds g Q E ⟨c, d, e, _⟩ => by rw [e]; rfl, fun b ds g Q Q' E E' w w' ⟨c, d, e, h, h2, q⟩ => ⟨c, d, e, h, h2, w _ _ q⟩⟩
theorem v_Changer (x : Addr) (b : B) (ds g Q X) (h : SP_Changer b ds g Q X) : VCI (t_Changer_init (b := b) SP_check_changer) ["self", "letters", "states"] x "Changer" ds g Q X := by
  obtain ⟨c, d, rfl, hd, hg, h⟩ := h
  refine ⟨_, rfl, _, rfl, c, d, rfl, hd, hg, ?_⟩
  refine ⟨_, rfl, rfl, x, _, _, _, rfl, List.mem_cons_self .., Nat.le_of_ble_eq_true rfl, ?_⟩
  refine ⟨_, rfl, oTuple_seq hd ?_⟩
  exact ⟨x, _, _, _, rfl, List.mem_cons_self .., Nat.le_of_ble_eq_true rfl, _, _, rfl, h⟩
def SP__law_make_changer : TSp := fun b ds g Q E => ∃ (a : Addr) (c : Chg), ds = [.hnd a, .str c.letters, En.d c.states] ∧ (StoreOk b g a ∧ GoodChg c) ∧ ∀ g', StoreOk b g' a → Q c.d g'
theorem ok__law_make_changer : SpOk 3 SP__law_make_changer := ⟨fun b ds g Q E ⟨i, j, e, _⟩ => by rw [e]; rfl, fun b ds g Q Q' E E' w w' ⟨i, j, e, h, q⟩ => ⟨i, j, e, h, fun g' h1 => w _ _ (q g' h1)⟩⟩
theorem v__law_make_changer (b : B) (ds g Q X) (h : SP__law_make_changer b ds g Q X) : VC (t__law_make_changer (b := b) SP__law_handed SP_Changer) ["store", "letters", "phases"] ds g Q X := by
  obtain ⟨a, c, rfl, ⟨hs, hg⟩, h⟩ := h
  refine ⟨_, rfl, _, rfl, _, rfl, a, _, rfl, hs, fun d g' hd hs' => ?_⟩
  exact ⟨c, d, rfl, hd, hg, rfl, h g' hs'⟩
def SP__law_make_carillon : TSp := fun b ds g Q E => ∃ (a : Addr) (c : Car), ds = [.hnd a, .str c.chg.letters, En.d c.chg.states, En.d c.scores] ∧ (StoreOk b g a ∧ GoodChg c.chg ∧ GoodScores c.scores ∧ ∀ r ∈ c.chg.states, ∀ e ∈ r, e.t < c.scores.length) ∧ ∀ g', StoreOk b g' a → Q c.d g'
theorem ok__law_make_carillon : SpOk 4 SP__law_make_carillon := ⟨fun b ds g Q E ⟨i, j, e, _⟩ => by rw [e]; rfl, fun b ds g Q Q' E E' w w' ⟨i, j, e, h, q⟩ => ⟨i, j, e, h, fun g' h1 => w _ _ (q g' h1)⟩⟩
theorem v__law_make_carillon (b : B) (ds g Q X) (h : SP__law_make_carillon b ds g Q X) : VC (t__law_make_carillon (b := b) SP__law_handed SP__law_make_changer SP_Carillon) ["store", "letters", "phases", "scores"] ds g Q X := by
  obtain ⟨a, c, rfl, ⟨hs, hg, hsc, ht⟩, h⟩ := h
  refine ⟨_, rfl, _, rfl, _, rfl, a, c.chg, rfl, ⟨hs, hg⟩, fun g1 hs1 => ?_⟩
  refine ⟨_, rfl, _, rfl, a, _, rfl, hs1, fun d g2 hd hs2 => ?_⟩
  have hl : ∀ r ∈ c.chg.states, r.length ≤ 1000 := fun r hr => by
    obtain ⟨ks, hk, e⟩ := hg.lt
    have h1 := hg.row r hr
    rw [e] at h1
    have h2 := hk.hi
    have h3 : (SX.S ks).cps.toList.length = ks.length := by simp
    omega
  exact ⟨c, d, rfl, hd, ⟨hsc, ht, hl⟩, rfl, h g2 hs2⟩
end TL
set_option Elab.async false
set_option linter.all false
set_option maxRecDepth 100000
/-! VL1: the law's heard slots are the program's. -/
namespace TL
open PySem PySem.Spec PyProof.Rows L2
theorem sorted_eq : ∀ (l1 l2 : List Nat), l1.Pairwise (· < ·) → l2.Pairwise (· < ·) → (∀ x, x ∈ l1 ↔ x ∈ l2) → l1 = l2
  | [], [], _, _, _ => rfl
  | [], y :: l2, _, _, h => absurd ((h y).mpr (List.mem_cons_self ..)) (by simp)
  | x :: l1, [], _, _, h => absurd ((h x).mp (List.mem_cons_self ..)) (by simp)
  | x :: l1, y :: l2, h1, h2, h => by
    obtain ⟨a1, b1⟩ := List.pairwise_cons.mp h1
    obtain ⟨a2, b2⟩ := List.pairwise_cons.mp h2
    have e : x = y := by
      rcases List.mem_cons.mp ((h x).mp (List.mem_cons_self ..)) with e | hx
      · exact e
      · rcases List.mem_cons.mp ((h y).mpr (List.mem_cons_self ..)) with e | hy
        · exact e.symm
        · have := a2 x hx; have := a1 y hy; omega
    subst e
    rw [sorted_eq l1 l2 b1 b2 fun z => ?_]
    constructor
    · intro hz
      rcases List.mem_cons.mp ((h z).mp (List.mem_cons_of_mem _ hz)) with e | q
      · subst e; have := a1 z hz; omega
      · exact q
    · intro hz
      rcases List.mem_cons.mp ((h z).mpr (List.mem_cons_of_mem _ hz)) with e | q
      · subst e; have := a2 z hz; omega
      · exact q
/-- a single sign -/
def sgl (s : Str) : Option Nat := match s.cps.toList with
  | [k] => some k
  | _ => none
theorem sgl_some {s : Str} {k : Nat} (h : sgl s = some k) : s = sg k := by
  unfold sgl at h
  split at h
  · rename_i k' e
    cases h
    have := SX.S_tl s
    rw [e] at this
    exact this.symm
  · cases h
theorem sgl_sg (k : Nat) : sgl (sg k) = some k := rfl
theorem good_pair {slot : List Str} (h : GoodSlot slot) : slot.Pairwise fun x y => x.cps.toList < y.cps.toList := by
  have h2 := h.2
  clear h
  induction slot with
  | nil => exact .nil
  | cons a l ih =>
    have il := ih fun i x y hx hy => h2 (i + 1) x y (by simpa using hx) (by simpa using hy)
    refine List.pairwise_cons.mpr ⟨?_, il⟩
    cases l with
    | nil => intro y hy; cases hy
    | cons b l =>
      have hab : a.cps.toList < b.cps.toList := of_decide_eq_true (h2 0 a b rfl rfl)
      obtain ⟨hb, _⟩ := List.pairwise_cons.mp il
      intro y hy
      rcases List.mem_cons.mp hy with rfl | hy
      · exact hab
      · exact List.lt_trans hab (hb y hy)
theorem sgl_sorted {slot : List Str} (h : GoodSlot slot) : (slot.filterMap sgl).Pairwise (· < ·) := by
  rw [List.pairwise_filterMap]
  refine (good_pair h).imp fun {x y} hxy a ha b hb => ?_
  rw [sgl_some ha, sgl_some hb] at hxy
  have : ([a] : List Nat) < [b] := hxy
  rcases List.cons_lt_cons_iff.mp this with h | ⟨_, h⟩
  · exact h
  · exact absurd h (List.not_lt_nil [])
def heardLaw (z : Str) (slot : List Str) : Str := SX.S ((slot.filterMap sgl).filter fun k => decide (k ∈ z.cps.toList))
theorem heardLaw_eq {z : Str} {slot : List Str} (hs : GoodSlot slot) (hz : okB z = true) : heardLaw z slot = heardSlot z slot := by
  unfold heardLaw heardSlot
  congr 1
  refine sorted_eq _ _ ((sgl_sorted hs).filter _) (List.Pairwise.filter _ ?_) fun k => ?_
  · rw [okB_eq hz]
    refine List.Pairwise.filter _ ?_
    decide +kernel
  · rw [List.mem_filter, List.mem_filter, List.mem_filterMap]
    simp only [decide_eq_true_eq]
    constructor
    · rintro ⟨⟨s, hs1, hs2⟩, h2⟩
      exact ⟨h2, sgl_some hs2 ▸ hs1⟩
    · rintro ⟨h1, h2⟩
      exact ⟨⟨sg k, h2, sgl_sg k⟩, h1⟩
end TL
set_option Elab.async false
set_option linter.all false
set_option maxRecDepth 100000
/-! VL2: _law_heard. -/
namespace TL
open PySem PySem.Spec PyProof.Rows L2
def SP__law_heard : TSp := fun b ds g Q E => ∃ (sc : Score) (z : Str), ds = [En.d sc, .str z] ∧ ((∀ s ∈ sc, GoodSlot s ∧ s.length ≤ 1000) ∧ okB z = true ∧ sc.length ≤ 1000) ∧ Q (En.d (sc.map (heardSlot z))) g
theorem ok__law_heard : SpOk 2 SP__law_heard := ⟨fun b ds g Q E ⟨i, j, e, _⟩ => by rw [e]; rfl, fun b ds g Q Q' E E' w w' ⟨i, j, e, h, q⟩ => ⟨i, j, e, h, w _ _ q⟩⟩
theorem marks_len : ∀ s ∈ marks, s.length ≤ 2 := by decide +kernel
theorem sgl_len {s : Str} : s.length = 1 ↔ ∃ k, sgl s = some k := by
  constructor
  · intro h
    have h1 : s.cps.toList.length = 1 := by simpa [Str.length] using h
    obtain ⟨k, hk⟩ := List.length_eq_one_iff.mp h1
    exact ⟨k, by unfold sgl; rw [hk]⟩
  · rintro ⟨k, hk⟩
    rw [sgl_some hk]; rfl
def keepS (z : Str) (s : Str) : Option D := match sgl s with
  | some k => if k ∈ z.cps.toList then some (.str s) else none
  | none => none
theorem keepS_all (z : Str) : ∀ slot : List Str, slot.filterMap (keepS z) = (((slot.filterMap sgl).filter fun k => decide (k ∈ z.cps.toList)).map sg).map D.str
  | [] => rfl
  | s :: slot => by
    have ih := keepS_all z slot
    unfold keepS at ih ⊢
    cases e : sgl s with
    | none => simp only [List.filterMap_cons, e, ih]
    | some k =>
      have es := sgl_some e
      by_cases h : k ∈ z.cps.toList
      · simp only [List.filterMap_cons, e, if_pos h, ih]
        rw [List.filter_cons_of_pos (by simpa using h), es]
        rfl
      · simp only [List.filterMap_cons, e, if_neg h, ih]
        rw [List.filter_cons_of_neg (by simpa using h)]
theorem v__law_heard (b : B) (ds g Q X) (h : SP__law_heard b ds g Q X) : VC (t__law_heard (b := b)) ["score", "bells", "found", "slot", "sign"] ds g Q X := by
  obtain ⟨sc, z, rfl, ⟨hsc, hz, hl⟩, h⟩ := h
  have hb := sizeLine_big
  refine ⟨Nat.zero_le _, _, rfl, ?_⟩
  refine forL_xs En.d (fun (rest : Score) ρ g1 => g1 = g ∧ (∀ s ∈ rest, s ∈ sc) ∧ ∃ (acc : List Str) (x3 x4 : Option D), ρ = [some (En.d sc), some (.str z), some (.lst (acc.map D.str)), x3, x4] ∧ acc ++ rest.map (heardSlot z) = sc.map (heardSlot z)) sc _ _ (fun s rest ρ g1 K hK ⟨eg, hr, acc, x3, x4, eρ, ha⟩ => ?_) (fun ρ g1 ⟨eg, _, acc, x3, x4, eρ, ha⟩ => ?_) ⟨rfl, fun s hs => hs, [], _, _, rfl, rfl⟩
  · subst eg eρ
    obtain ⟨hg, hlen⟩ := hsc s (hr s (List.mem_cons_self ..))
    refine ⟨⟨_, rfl⟩, "", rfl, _, rfl, by simp; omega, ?_⟩
    refine lcL_xs D.str (keepS z) s [] (fun x hx K1 K0 h1 h0 => ?_) ?_
    · have hm := marks_len x (hg.1 x hx)
      refine ⟨_, rfl, by omega, ?_⟩
      dsimp only [tCon]
      refine oEq_en ((x.length : Nat) : Int) 1 trivial trivial (by decide) ⟨_, rfl, ?_⟩
      unfold keepS at h1 h0
      cases e : sgl x with
      | none =>
        have hne : ¬ x.length = 1 := fun q => by obtain ⟨k, hk⟩ := sgl_len.mp q; rw [e] at hk; cases hk
        refine if0 (decide_eq_false (by omega)) ?_
        rw [if_neg Bool.false_ne_true]
        exact h0 (by rw [e])
      | some k =>
        have hx1 : x.length = 1 := sgl_len.mpr ⟨k, e⟩
        have ex := sgl_some e
        refine if1 (decide_eq_true (by omega)) ?_
        subst ex
        refine ⟨_, rfl, _, rfl, oIn_sign k z ⟨_, rfl, ?_⟩⟩
        refine ifB (fun hk => ⟨_, rfl, rfl, h1 _ (by rw [e]; simp [hk])⟩) fun hk => h0 (by rw [e]; simp [hk])
    · rw [List.nil_append, keepS_all]
      refine oJoin_signs _ ?_ ?_
      · refine Nat.le_trans (List.length_filter_le _ _) (Nat.le_trans (List.length_filterMap_le _ _) (by omega))
      · have e : SX.S ((s.filterMap sgl).filter fun k => decide (k ∈ z.cps.toList)) = heardSlot z s := heardLaw_eq hg hz
        rw [e]
        refine ⟨_, rfl, ?_, hK _ _ ⟨rfl, fun s hs => hr s (List.mem_cons_of_mem _ hs), acc ++ [heardSlot z s], some (En.d s), x4, by simp, by simpa using ha⟩⟩
        have := congrArg List.length ha
        simp at this ⊢
        omega
  · subst eg eρ
    rw [List.map_nil, List.append_nil] at ha
    subst ha
    exact ⟨_, rfl, h⟩
end TL
set_option Elab.async false
set_option linter.all false
set_option maxRecDepth 100000
/-! VL3: heard lists by one count. -/
namespace TL
open PySem PySem.Spec PyProof.Rows L2
theorem range_add (a b : Nat) : List.range (a + b) = List.range a ++ (List.range b).map (a + ·) := by
  induction b with
  | zero => simp
  | succ b ih => rw [← Nat.add_assoc, List.range_succ, ih, List.range_succ, List.map_append, List.append_assoc]; rfl
theorem fm_congr {α β : Type} {f g : α → Option β} : ∀ (l : List α), (∀ x ∈ l, f x = g x) → l.filterMap f = l.filterMap g
  | [], _ => rfl
  | x :: l, h => by rw [List.filterMap_cons, List.filterMap_cons, h x (List.mem_cons_self ..), fm_congr l fun y hy => h y (List.mem_cons_of_mem _ hy)]
/-- the list by one count -/
def oneCount (slots : List Str) (v : Nat) : Heard := (List.range (v * slots.length)).filterMap fun k => if slots.getD (k % slots.length) ("" : Str) = ("" : Str) then none else some ((k : Nat), slots.getD (k % slots.length) ("" : Str))
theorem verse_range (slots : List Str) (r : Nat) : verseL slots r = (List.range slots.length).filterMap fun p => if slots.getD p ("" : Str) = ("" : Str) then none else some ((r : Int) * (slots.length : Nat) + (p : Nat), slots.getD p ("" : Str)) := by
  unfold verseL
  have e : slots.zipIdx = (List.range slots.length).map fun p => (slots.getD p ("" : Str), p) := by
    refine List.ext_getElem (by simp) fun i h1 h2 => ?_
    simp at h1
    simp [h1]
  rw [e, List.filterMap_map]
  rfl
theorem oneCount_eq (slots : List Str) : ∀ v, oneCount slots v = heardL slots v
  | 0 => by simp [oneCount, heardL]
  | v + 1 => by
    have ih := oneCount_eq slots v
    unfold oneCount heardL at ih ⊢
    rw [Nat.add_mul, Nat.one_mul, range_add, List.filterMap_append, ih, List.range_succ, List.flatMap_append]
    congr 1
    rw [List.flatMap_singleton, verse_range, List.filterMap_map]
    refine fm_congr _ fun p hp => ?_
    have hp : p < slots.length := by simpa using hp
    have e1 : (v * slots.length + p) % slots.length = p := by rw [Nat.mul_add_mod_self_right, Nat.mod_eq_of_lt hp]
    show (if slots.getD ((v * slots.length + p) % slots.length) ("" : Str) = ("" : Str) then none else some (((v * slots.length + p : Nat) : Int), slots.getD ((v * slots.length + p) % slots.length) ("" : Str))) = _
    rw [e1]
    simp
def SP__law_heard_list : TSp := fun b ds g Q E => ∃ (sc : Score) (z : Str) (v : Nat), ds = [En.d sc, .str z, .int v] ∧ ((∀ s ∈ sc, GoodSlot s ∧ s.length ≤ 1000) ∧ (okB z = true ∧ En.ok z) ∧ 1 ≤ sc.length ∧ sc.length ≤ 1000 ∧ v ≤ 100) ∧ Q (En.d (heardL (sc.map (heardSlot z)) v)) g
theorem ok__law_heard_list : SpOk 3 SP__law_heard_list := ⟨fun b ds g Q E ⟨i, j, k, e, _⟩ => by rw [e]; rfl, fun b ds g Q Q' E E' w w' ⟨i, j, k, e, h, q⟩ => ⟨i, j, k, e, h, w _ _ q⟩⟩
theorem v__law_heard_list (b : B) (ds g Q X) (h : SP__law_heard_list b ds g Q X) : VC (t__law_heard_list (b := b) SP__law_heard) ["score", "bells", "verses_in", "row", "found", "k"] ds g Q X := by
  obtain ⟨sc, z, v, rfl, ⟨hsc, ⟨hz, hok⟩, hl0, hl, hv⟩, h⟩ := h
  have hb := sizeLine_big
  refine ⟨_, rfl, _, rfl, sc, z, rfl, ⟨hsc, hz, hl⟩, ?_⟩
  generalize hsl : sc.map (heardSlot z) = slots at h ⊢
  have hoks : ∀ y ∈ slots, En.ok y := fun y hy => by
    subst hsl
    obtain ⟨s, _, rfl⟩ := List.mem_map.mp hy
    exact heardSlot_ok hok s
  have hn : slots.length = sc.length := by rw [← hsl, List.length_map]
  have hvn : v * slots.length ≤ 100 * 1000 := Nat.mul_le_mul hv (by omega)
  refine ⟨Nat.zero_le _, _, rfl, _, rfl, cmulL ⟨by omega, by omega⟩, _, rfl, ?_⟩
  rw [List.length_map, show ((v : Nat) : Int) * ((slots.length : Nat) : Int) = ((v * slots.length : Nat) : Int) by simp]
  refine ⟨⟨by omega, by omega⟩, ?_⟩
  rw [Int.toNat_natCast]
  unfold rngD
  refine forL_xs (fun k : Nat => D.int ((0 : Int) + (k : Nat))) (fun (rest : List Nat) ρ g1 => g1 = g ∧ ∃ (acc : Heard) (x5 : Option D), ρ = [some (En.d sc), some (.str z), some (.int v), some (En.d slots), some (.lst (acc.map En.d)), x5] ∧ acc ++ (rest.filterMap fun k => if slots.getD (k % slots.length) ("" : Str) = ("" : Str) then none else some (((k : Nat) : Int), slots.getD (k % slots.length) ("" : Str))) = oneCount slots v ∧ acc.length + rest.length ≤ v * slots.length) _ _ _ (fun k rest ρ g1 K hK ⟨eg, acc, x5, eρ, ha, hc⟩ => ?_) (fun ρ g1 ⟨eg, acc, x5, eρ, ha, _⟩ => ?_) ⟨rfl, [], none, rfl, rfl, by simp⟩
  · subst eg eρ
    rw [List.length_cons] at hc
    have hk : k % slots.length < slots.length := Nat.mod_lt _ (by omega)
    have hat : atI (slots.map En.d) (((0 : Int) + (k : Nat)) % (((slots.map (En.d (α := Str))).length : Nat) : Int)) = some (D.str (slots.getD (k % slots.length) ("" : Str))) := by
      refine atI_of (i := k % slots.length) (by rw [List.length_map, Int.zero_add]; rfl) ?_
      rw [List.getElem?_map, List.getElem?_eq_getElem hk, List.getD_eq_getElem?_getD, List.getElem?_eq_getElem hk]; rfl
    have hpos : 0 < (((slots.map (En.d (α := Str))).length : Nat) : Int) := by rw [List.length_map]; omega
    refine ⟨_, rfl, _, rfl, _, rfl, hpos, _, hat, ?_⟩
    dsimp only [tCon]
    have hy : slots.getD (k % slots.length) ("" : Str) ∈ slots := by rw [List.getD_eq_getElem?_getD, List.getElem?_eq_getElem hk]; exact List.getElem_mem hk
    generalize hw : slots.getD (k % slots.length) ("" : Str) = w at hat hy
    refine oNe_en w ("" : Str) (hoks _ hy) (show PyData.strOk ("" : Str) = true by decide +kernel) (by decide) ⟨_, rfl, ?_⟩
    rw [List.filterMap_cons, hw] at ha
    by_cases he : w = ("" : Str)
    · refine if0 (by rw [decide_eq_true he]; rfl) (hK _ _ ⟨rfl, acc, some (.int ((0 : Int) + (k : Nat))), rfl, by simpa [he] using ha, by omega⟩)
    · refine if1 (by rw [decide_eq_false he]; rfl) ⟨⟨_, rfl⟩, _, rfl, rfl, _, rfl, _, rfl, _, rfl, hpos, _, hat, Nat.le_trans (Nat.le_of_ble_eq_true rfl : 2 ≤ 1000000) hb, _, rfl, by simp; omega, hK _ _ ⟨rfl, acc ++ [(((k : Nat) : Int), w)], some (.int ((0 : Int) + (k : Nat))), ?_, by simpa [he] using ha, by simp; omega⟩⟩
      simp [En.d_prod, En.d_int, En.d_str]
  · subst eg eρ
    rw [List.filterMap_nil, List.append_nil] at ha
    subst ha
    rw [oneCount_eq]
    exact ⟨_, rfl, h⟩
end TL
set_option Elab.async false
set_option linter.all false
set_option maxRecDepth 100000
/-! VL4: the joint rows of the law. -/
namespace TL
open PySem PySem.Spec PyProof.Rows L2
def hD (h : Hour) : D := .tup [.int h.2, En.d h.1]
def rowD (r : List Hour) : D := .lst (r.map hD)
def jointD (rows : HRows) : D := .lst (rows.map rowD)
def Car.tp (c : Car) : D := .tup [.str c.chg.letters, En.d c.chg.states, En.d c.scores]
def jfold (z : Str) : HRows → List Car → HRows
  | acc, [] => acc
  | acc, c :: cs => jfold z (acc ++ (rowsL c z).map (shiftR acc.length)) cs
theorem shiftR_zero : shiftR 0 = id := by
  funext r
  unfold shiftR
  rw [show (fun h : Hour => (h.1, h.2 + ((0 : Nat) : Int))) = id from funext fun h => Prod.ext rfl (Int.add_zero h.2), List.map_id]
  rfl
theorem jfold_two (c1 c2 : Car) (z : Str) : jfold z [] [c1, c2] = jointL c1 c2 z := by
  simp [jfold, jointL, shiftR_zero, rowsL_len]
theorem nodup_le {α : Type} [DecidableEq α] : ∀ (l m : List α), l.Nodup → (∀ x ∈ l, x ∈ m) → l.length ≤ m.length
  | [], m, _, _ => Nat.zero_le _
  | x :: l, m, hn, h => by
    obtain ⟨h1, h2⟩ := List.nodup_cons.mp hn
    have ih := nodup_le l (m.erase x) h2 fun y hy => (List.mem_erase_of_ne (fun e => h1 (by rw [← e]; exact hy))).mpr (h y (List.mem_cons_of_mem _ hy))
    have hm := h x (List.mem_cons_self ..)
    rw [List.length_erase_of_mem hm] at ih
    have := List.length_pos_of_mem hm
    rw [List.length_cons]
    omega
theorem slot_len {s : List Str} (h : GoodSlot s) : s.length ≤ 12 := by
  refine nodup_le s marks ?_ h.1
  refine (good_pair h).imp fun {x y} hxy e => ?_
  subst e
  exact List.lt_irrefl _ hxy
def SP__law_joint : TSp := fun b ds g Q E => ∃ (c1 c2 : Car) (z : Str), ds = [c1.tp, c2.tp, .str z] ∧ (GoodCar c1 ∧ GoodCar c2 ∧ GoodB z) ∧ Q (jointD (jointL c1 c2 z)) g
theorem ok__law_joint : SpOk 3 SP__law_joint := ⟨fun b ds g Q E ⟨i, j, k, e, _⟩ => by rw [e]; rfl, fun b ds g Q Q' E E' w w' ⟨i, j, k, e, h, q⟩ => ⟨i, j, k, e, h, w _ _ q⟩⟩
theorem two_big : 2 ≤ sizeLine := Nat.le_trans (Nat.le_of_ble_eq_true rfl : 2 ≤ 1000000) sizeLine_big
theorem v__law_joint (b : B) (ds g Q X) (h : SP__law_joint b ds g Q X) : VC (t__law_joint (b := b) SP__law_heard_list) ["one", "two", "bells", "rows", "parts", "base", "row", "told", "item", "heard_row"] ds g Q X := by
  obtain ⟨c1, c2, z, rfl, ⟨h1, h2, hz⟩, h⟩ := h
  have hb := sizeLine_big
  refine ⟨Nat.zero_le _, c1.tp, rfl, rfl, c2.tp, rfl, rfl, two_big, ?_⟩
  obtain ⟨l, hl⟩ : ∃ l, l = [c1, c2] := ⟨_, rfl⟩
  rw [show [c1.tp, c2.tp] = l.map Car.tp by rw [hl]; rfl]
  refine forL_xs Car.tp (fun (rest : List Car) ρ g1 => g1 = g ∧ (∀ c ∈ rest, GoodCar c) ∧ ∃ (acc : HRows) (x4 x5 x6 x7 x8 x9 : Option D), ρ = [some c1.tp, some c2.tp, some (.str z), some (jointD acc), x4, x5, x6, x7, x8, x9] ∧ jfold z acc rest = jointL c1 c2 z ∧ acc.length + 6 * rest.length ≤ 12) l _ _ (fun c rest ρ g1 K hK ⟨eg, hr, acc, x4, x5, x6, x7, x8, x9, eρ, ha, hn⟩ => ?_) (fun ρ g1 ⟨eg, _, acc, x4, x5, x6, x7, x8, x9, eρ, ha, _⟩ => ?_) ⟨rfl, ?_, [], none, none, none, none, none, none, rfl, by rw [hl]; exact jfold_two c1 c2 z, by rw [hl]; exact Nat.le_refl _⟩
  · subst eg eρ
    have hc := hr c (List.mem_cons_self ..)
    have hsl := hc.st.2
    rw [List.length_cons] at hn
    refine ⟨_, rfl, _, rfl, En.d c.chg.states, rfl, ?_⟩
    refine forL_xs En.d (fun (rs : List (List Ent)) ρ g2 => g2 = g1 ∧ (∀ r ∈ rs, r ∈ c.chg.states) ∧ ∃ (acc2 : HRows) (x6 x7 x8 x9 : Option D), ρ = [some c1.tp, some c2.tp, some (.str z), some (jointD acc2), some c.tp, some (.int ((acc.map rowD).length : Nat)), x6, x7, x8, x9] ∧ acc2 ++ (rs.map fun r => shiftR acc.length (rowL c z r)) = acc ++ (rowsL c z).map (shiftR acc.length)) c.chg.states _ _ (fun r rs ρ g2 K2 hK2 ⟨eg, hrs, acc2, x6, x7, x8, x9, eρ, ha2⟩ => ?_) (fun ρ g2 ⟨eg, _, acc2, x6, x7, x8, x9, eρ, ha2⟩ => ?_) ⟨rfl, fun r hr => hr, acc, x6, x7, x8, x9, rfl, by simp [rowsL, List.map_map, Function.comp_def]⟩
    · subst eg eρ
      have hrm := hrs r (List.mem_cons_self ..)
      have hlen : r.length ≤ 3 := by rw [hc.row r hrm]; exact hc.lt.2
      have hl2 := congrArg List.length ha2
      simp only [List.length_append, List.length_map, List.length_cons, rowsL_len] at hl2
      refine ⟨Nat.zero_le _, En.d r, rfl, ?_⟩
      refine forL_xs En.d (fun (es : List Ent) ρ g3 => g3 = g2 ∧ (∀ e ∈ es, e ∈ r) ∧ ∃ (acc3 : List Hour) (x8 x9 : Option D), ρ = [some c1.tp, some c2.tp, some (.str z), some (jointD acc2), some c.tp, some (.int ((acc.map rowD).length : Nat)), some (En.d r), some (rowD acc3), x8, x9] ∧ acc3 ++ (es.map fun e => ((hourL c z e, e.f + (acc.length : Nat)) : Hour)) = shiftR acc.length (rowL c z r)) r _ _ (fun e es ρ g3 K3 hK3 ⟨eg, hes, acc3, x8, x9, eρ, ha3⟩ => ?_) (fun ρ g3 ⟨eg, _, acc3, x8, x9, eρ, ha3⟩ => ?_) ⟨rfl, fun e he => he, [], x8, x9, rfl, by simp [shiftR, rowL, List.map_map, Function.comp_def]⟩
      · subst eg eρ
        have ge := hc.ent r hrm e (hes e (List.mem_cons_self ..))
        have hl3 := congrArg List.length ha3
        simp only [List.length_append, List.length_map, List.length_cons, shiftR, rowL] at hl3
        have fin : ∀ y : Heard, y = hourL c z e → (acc3 ++ [((hourL c z e, e.f + (acc.length : Nat)) : Hour)]).map hD = acc3.map hD ++ [D.tup [.int (e.f + ((acc.map rowD).length : Nat)), En.d y]] := fun y ey => by
          rw [List.map_append, List.length_map, ey]; rfl
        refine ⟨Nat.zero_le _, _, rfl, .int e.t, rfl, _, rfl, ifB (fun h0 => ?_) fun h0 => ?_⟩
        · have hv := ge.1.2.2.resolve_left fun q => by have := q.1; omega
          obtain ⟨v1, v2, v3, v4⟩ := hv
          have hi : e.t.toNat < c.scores.length := by have := ge.2; omega
          have hsc := hc.sc.2.2.1 _ (List.getElem_mem hi)
          refine ⟨_, rfl, En.d c.scores, rfl, _, rfl, .int e.t, rfl, En.d (c.scores[e.t.toNat]), atI_of (i := e.t.toNat) (by omega) (by rw [List.getElem?_map, List.getElem?_eq_getElem hi]; rfl), _, rfl, _, rfl, .int e.v, rfl, ?_⟩
          refine ⟨c.scores[e.t.toNat], z, e.v.toNat, ?_, ⟨fun s hs => ⟨hsc.2.2 s hs, ?_⟩, ⟨hz.good, hz.ok⟩, hsc.1, by have := hsc.2.1; omega, by omega⟩, ?_⟩
          · rw [show ((e.v.toNat : Nat) : Int) = e.v by omega]; rfl
          · have := slot_len (hsc.2.2 s hs); omega
          · have eh : heardL (c.scores[e.t.toNat].map (heardSlot z)) e.v.toNat = hourL c z e := by
              unfold hourL
              rw [if_neg (by omega), List.getD_eq_getElem?_getD, List.getElem?_eq_getElem hi]; rfl
            refine ⟨⟨_, rfl⟩, _, rfl, .int e.f, rfl, _, rfl, _, rfl, rfl, two_big, _, rfl, by simp; omega, hK3 _ _ ⟨rfl, fun e he => hes e (List.mem_cons_of_mem _ he), acc3 ++ [((hourL c z e, e.f + (acc.length : Nat)) : Hour)], some (En.d e), some (En.d (heardL (c.scores[e.t.toNat].map (heardSlot z)) e.v.toNat)), ?_, by simpa using ha3⟩⟩
            unfold rowD
            rw [fin _ eh]
            rfl
        · have et : e.t = -1 := by rcases ge.1.2.2 with q | q <;> omega
          have eh : ([] : Heard) = hourL c z e := by unfold hourL; rw [if_pos et]
          refine ⟨⟨_, rfl⟩, _, rfl, .int e.f, rfl, _, rfl, _, rfl, rfl, two_big, _, rfl, by simp; omega, hK3 _ _ ⟨rfl, fun e he => hes e (List.mem_cons_of_mem _ he), acc3 ++ [((hourL c z e, e.f + (acc.length : Nat)) : Hour)], some (En.d e), some (.tup []), ?_, by simpa using ha3⟩⟩
          unfold rowD
          rw [fin _ eh]
          rfl
      · subst eg eρ
        rw [List.map_nil, List.append_nil] at ha3
        refine ⟨_, _, rfl, rfl, by simp; omega, hK2 _ _ ⟨rfl, fun r hr => hrs r (List.mem_cons_of_mem _ hr), acc2 ++ [shiftR acc.length (rowL c z r)], some (En.d r), none, x8, x9, ?_, by simpa using ha2⟩⟩
        unfold jointD
        rw [List.map_append, ← ha3]
        rfl
    · subst eg eρ
      rw [List.map_nil, List.append_nil] at ha2
      refine hK _ _ ⟨rfl, fun c hc => hr c (List.mem_cons_of_mem _ hc), acc2, _, _, x6, x7, x8, x9, rfl, by rw [ha2]; exact ha, ?_⟩
      have := congrArg List.length ha2
      simp only [List.length_append, List.length_map, rowsL_len] at this
      omega
  · subst eg eρ
    have ha : acc = jointL c1 c2 z := ha
    subst ha
    exact ⟨_, rfl, h⟩
  · intro c hc
    rw [hl] at hc
    rcases List.mem_cons.mp hc with rfl | hc
    · exact h1
    · rw [List.mem_singleton.mp hc]; exact h2
end TL
set_option Elab.async false
set_option linter.all false
set_option maxRecDepth 100000
/-! VF1: the law's fault; its comparison. -/
namespace TL
open PySem PySem.Spec PyProof.Rows L2
theorem oNe_lst {α : Type} [En α] [DecidableEq α] (xs ys : List α) {Q : D → Prop} (ha : ∀ x ∈ xs, En.ok x) (hb : ∀ x ∈ ys, En.ok x) (hd : En.dep α ≤ 63) (q : Q (.bl (!decide (xs = ys)))) : oNe (.lst (xs.map En.d)) (.lst (ys.map En.d)) Q := by
  have key : (D.lst (xs.map En.d)).py.eqv (D.lst (ys.map En.d)).py = decide (xs = ys) := by
    rw [Bool.eq_iff_iff, decide_eq_true_iff, D.py, D.py, pys_map, pys_map, PyData.eqv]; exact eqv_map _ En.eqv xs ys
  have pl : ∀ zs : List α, (D.lst (zs.map En.d)).pl = true := fun zs => by simp [D.pl, pls_map _ En.pl]
  have sh : ∀ zs : List α, (∀ x ∈ zs, En.ok x) → SeqAt.shaped (D.lst (zs.map En.d)).py = true := fun zs hz => by
    have h1 : (D.lst (zs.map En.d)).py.canLay0 = true := by rw [D.py, pys_map, PyData.canLay0]; exact lay_map _ _ fun a h => En.lay a (hz a h)
    have h2 : (D.lst (zs.map En.d)).py.depth ≤ 64 := by rw [D.py, pys_map, PyData.depth]; have := depth_map (En.d (α := α)) (En.dep α) En.depth zs; omega
    unfold SeqAt.shaped
    rw [h1, decide_eq_true h2]; rfl
  exact ⟨⟨pl xs, pl ys, sh xs ha, sh ys hb⟩, by rw [key]; exact q⟩
theorem sgl_map : ∀ l : List Nat, (l.map sg).filterMap sgl = l
  | [] => rfl
  | k :: l => by rw [List.map_cons, List.filterMap_cons, sgl_sg, sgl_map l]
theorem okB_iff (z : Str) : okB z = decide (z.cps.toList.map sg = (("abcdef" : Str).cps.toList.filter fun k => decide (k ∈ z.cps.toList)).map sg) := by
  rw [Bool.eq_iff_iff, decide_eq_true_iff]
  constructor
  · intro h
    have e := okB_eq h
    have e2 : z.cps.toList = ("abcdef" : Str).cps.toList.filter fun k => decide (k ∈ z.cps.toList) := by
      have := congrArg (fun s : Str => s.cps.toList) e
      exact this
    rw [← e2]
  · intro h
    have e := congrArg (List.filterMap sgl) h
    rw [sgl_map, sgl_map] at e
    unfold okB
    rw [← e]
    exact decide_eq_true (SX.S_tl z).symm
theorem sg_ok {k : Nat} (h : k < 0x110000) : En.ok (sg k) := S_ok (ks := [k]) fun x hx => by rw [List.mem_singleton.mp hx]; exact h
theorem signs_en (z : Str) : signs z = (z.cps.toList.map sg).map En.d := by unfold signs; rw [List.map_map]; rfl
def faultD (cn : Str) (es : List D) : D := if cn = "BadBells" then .tup (.bl false :: .str "bells" :: es) else .tup (.bl false :: .str "unlike" :: es)
theorem faultD_b (es : List D) : faultD "BadBells" es = .tup (.bl false :: .str "bells" :: es) := if_pos rfl
theorem faultD_u (es : List D) : faultD "Unlike" es = .tup (.bl false :: .str "unlike" :: es) := if_neg (by decide)
/-- the three checks, each apart -/
theorem Checked.mono2 {G : Type} {c1 c2 : Car} {z : Str} {P P' : Prop} {g : G} {E E' : G → Str → List Str → List D → Prop} (w : okB z = true → c1.chg.letters = c2.chg.letters → c1.size = c2.size → P → P') (w1 : E g "BadBells" ["text"] [.str z] → E' g "BadBells" ["text"] [.str z]) (w2 : ∀ f : Str, E g "Unlike" ["field"] [.str f] → E' g "Unlike" ["field"] [.str f]) (h : Checked c1 c2 z P g E) : Checked c1 c2 z P' g E' := by
  unfold Checked at h ⊢
  cases e1 : okB z with
  | false => rw [e1, if_neg Bool.false_ne_true] at h; rw [if_neg Bool.false_ne_true]; exact w1 h
  | true =>
    rw [e1, if_pos rfl] at h; rw [if_pos rfl]
    cases e2 : decide (c1.chg.letters = c2.chg.letters) with
    | false => rw [e2, if_neg Bool.false_ne_true] at h; rw [if_neg Bool.false_ne_true]; exact w2 _ h
    | true =>
      rw [e2, if_pos rfl] at h; rw [if_pos rfl]
      cases e3 : decide (c1.size = c2.size) with
      | false => rw [e3, if_neg Bool.false_ne_true] at h; rw [if_neg Bool.false_ne_true]; exact w2 _ h
      | true => rw [e3, if_pos rfl] at h; rw [if_pos rfl]; exact w e1 (of_decide_eq_true e2) (of_decide_eq_true e3) h
structure FaultOk (c1 c2 : Car) (z : Str) : Prop where
  oz : En.ok z
  n : z.cps.size ≤ 1000
  l1 : En.ok c1.chg.letters
  l2 : En.ok c2.chg.letters
  s1 : 1 ≤ c1.scores.length
  s2 : 1 ≤ c2.scores.length
def SP__law_fault : TSp := fun b ds g Q E => ∃ (c1 c2 : Car) (z : Str), ds = [c1.tp, c2.tp, .str z] ∧ FaultOk c1 c2 z ∧ Checked c1 c2 z (Q .non g) g fun g cn ns es => Q (faultD cn es) g
theorem ok__law_fault : SpOk 3 SP__law_fault := ⟨fun b ds g Q E ⟨c, c2, z, e, _⟩ => by rw [e]; rfl, fun b ds g Q Q' E E' w w' ⟨c, c2, z, e, h, q⟩ => ⟨c, c2, z, e, h, q.mono (fun _ _ _ => w _ _) fun _ _ _ => w _ _⟩⟩
theorem size_en {c : Car} {s0 : Score} (h : c.scores[0]? = some s0) : ((s0.map (En.d (α := List Str))).length : Nat) = c.size := by
  unfold Car.size
  rw [List.length_map, List.getD_eq_getElem?_getD, h]; rfl
theorem v__law_fault (b : B) (ds g Q X) (h : SP__law_fault b ds g Q X) : VC (t__law_fault (b := b)) ["one", "two", "bells", "bell"] ds g Q X := by
  obtain ⟨c1, c2, z, rfl, ⟨hz, hn, hl1, hl2, hs1, hs2⟩, h⟩ := h
  have hb := sizeLine_big
  refine ⟨_, rfl, by omega, by simp [signs]; decide, ?_⟩
  refine lcL_signs 3 (Nat.le_of_ble_eq_true rfl) (fun k => decide (k ∈ z.cps.toList)) _ (fun k hk K q => ⟨_, rfl, _, rfl, oIn_sign k z ⟨_, rfl, q⟩⟩) ?_
  rw [signs_en]
  show oNe (D.lst ((z.cps.toList.map sg).map En.d)) (D.lst ((((("abcdef" : Str).cps.toList.filter fun k => decide (k ∈ z.cps.toList)).map sg)).map En.d)) _
  refine oNe_lst (z.cps.toList.map sg) ((("abcdef" : Str).cps.toList.filter fun k => decide (k ∈ z.cps.toList)).map sg) (fun x hx => ?_) (fun x hx => ?_) (by decide) ?_
  · obtain ⟨k, hk, rfl⟩ := List.mem_map.mp hx
    exact sg_ok (mem_ok hz k hk)
  · obtain ⟨k, hk, rfl⟩ := List.mem_map.mp hx
    exact (okB_sg (List.mem_filter.mp hk).1).2
  refine ⟨_, rfl, ?_⟩
  rw [← okB_iff]
  unfold Checked at h
  cases e1 : okB z with
  | false =>
    rw [e1, if_neg Bool.false_ne_true, faultD_b] at h
    exact if1 rfl ⟨_, rfl, rfl, Nat.le_trans (Nat.le_of_ble_eq_true rfl : 3 ≤ 1000000) hb, h⟩
  | true =>
    rw [e1, if_pos rfl] at h
    refine if0 rfl ⟨_, rfl, _, rfl, _, rfl, _, rfl, ?_⟩
    refine oNe_en c1.chg.letters c2.chg.letters hl1 hl2 (by decide) ⟨_, rfl, ?_⟩
    cases e2 : decide (c1.chg.letters = c2.chg.letters) with
    | false =>
      rw [e2, if_neg Bool.false_ne_true, faultD_u] at h
      exact if1 rfl ⟨Nat.le_trans (Nat.le_of_ble_eq_true rfl : 3 ≤ 1000000) hb, h⟩
    | true =>
      rw [e2, if_pos rfl] at h
      obtain ⟨s0, hs0⟩ : ∃ s0, c1.scores[0]? = some s0 := ⟨c1.scores[0]'(by omega), by simp⟩
      obtain ⟨u0, hu0⟩ : ∃ s0, c2.scores[0]? = some s0 := ⟨c2.scores[0]'(by omega), by simp⟩
      refine if0 rfl ⟨_, rfl, En.d c1.scores, rfl, En.d s0, atI_of (i := 0) rfl (by rw [List.getElem?_map, hs0]; rfl), _, rfl, En.d c2.scores, rfl, En.d u0, atI_of (i := 0) rfl (by rw [List.getElem?_map, hu0]; rfl), ?_⟩
      dsimp only [tNilT, oLen, En.d_list]
      refine oNe_en ((((s0.map (En.d (α := List Str))).length : Nat)) : Int) ((((u0.map (En.d (α := List Str))).length : Nat)) : Int) trivial trivial (by decide) ⟨_, rfl, ?_⟩
      rw [size_en hs0, size_en hu0]
      by_cases he : c1.size = c2.size
      · rw [decide_eq_true he, if_pos rfl] at h
        exact if0 (by rw [decide_eq_true (show ((c1.size : Nat) : Int) = ((c2.size : Nat) : Int) by omega)]; rfl) h
      · rw [decide_eq_false he, if_neg Bool.false_ne_true, faultD_u] at h
        exact if1 (by rw [decide_eq_false (show ¬ ((c1.size : Nat) : Int) = ((c2.size : Nat) : Int) by omega)]; rfl) ⟨Nat.le_trans (Nat.le_of_ble_eq_true rfl : 3 ≤ 1000000) hb, h⟩
/-! ### _law_alike of equal data -/
inductive FlatOk : D → Prop
  | non : FlatOk .non
  | bl (b : Bool) : FlatOk (.bl b)
  | int (i : Int) : FlatOk (.int i)
  | str (z : Str) : En.ok z → FlatOk (.str z)
def dOk : Nat → D → Prop
  | 0, d => FlatOk d
  | n + 1, d => FlatOk d ∨ ∃ ds, d = .tup ds ∧ ds.length ≤ 1000 ∧ ∀ x ∈ ds, dOk n x
def SPA : Nat → TSp
  | 0 => fun _ _ _ _ _ => False
  | n + 1 => fun b ds g Q E => ∃ d, ds = [d, d] ∧ dOk n d ∧ Q (.bl true) g
theorem ok_SPA : ∀ n, SpOk 2 (SPA n)
  | 0 => ⟨fun _ _ _ _ _ h => h.elim, fun _ _ _ _ _ _ _ _ _ h => h.elim⟩
  | n + 1 => ⟨fun b ds g Q E ⟨d, e, _⟩ => by rw [e]; rfl, fun b ds g Q Q' E E' w w' ⟨d, e, h, q⟩ => ⟨d, e, h, w _ _ q⟩⟩
theorem oEq_flat {d : D} {Q : D → Prop} (h : FlatOk d) (q : Q (.bl true)) : oEq d d Q := by
  cases h with
  | non => exact ⟨⟨rfl, rfl, by decide, by decide⟩, q⟩
  | bl b => cases b <;> exact ⟨⟨rfl, rfl, by decide, by decide⟩, q⟩
  | int i => exact oEq_en i i trivial trivial (by decide) (by simpa using q)
  | str z hz => exact oEq_en z z hz hz (by decide) (by simpa using q)
theorem v__law_alike (n : Nat) (b : B) (ds g Q X) (h : SPA (n + 1) b ds g Q X) : VC (t__law_alike (b := b) (SPA n)) ["one", "two", "k"] ds g Q X := by
  obtain ⟨d, rfl, hd, h⟩ := h
  have hb := sizeLine_big
  have flat : FlatOk d → VC (t__law_alike (b := b) (SPA n)) ["one", "two", "k"] [d, d] g Q X := fun hf => by
    cases hf with
    | non =>
      refine ⟨_, rfl, rfl, _, rfl, if0 rfl ⟨_, rfl, _, rfl, if1 rfl (if1 rfl ⟨_, rfl, ?_⟩)⟩⟩
      dsimp only [tCon, oIs]
      refine ⟨_, rfl, ?_⟩
      dsimp only [tCon, oIs]
      show oEq (D.bl _) (D.bl _) _
      refine oEq_flat (.bl _) ?_
      refine ⟨_, rfl, if1 rfl ⟨_, rfl, rfl, _, rfl, rfl, ?_⟩⟩
      show oEq (D.bl _) (D.bl _) _
      refine oEq_flat (.bl _) ?_
      refine ⟨_, rfl, if1 rfl ⟨_, rfl, _, rfl, ?_⟩⟩
      exact oEq_flat .non h
    | bl k =>
      refine ⟨_, rfl, rfl, _, rfl, if0 rfl ⟨_, rfl, _, rfl, if0 rfl ⟨_, rfl, _, rfl, if0 rfl ⟨_, rfl, rfl, _, rfl, if1 rfl (if1 rfl ⟨_, rfl, ?_⟩)⟩⟩⟩⟩
      dsimp only [tCon, oIs]
      refine ⟨_, rfl, ?_⟩
      dsimp only [tCon, oIs]
      show oEq (D.bl _) (D.bl _) _
      refine oEq_flat (.bl _) ?_
      refine ⟨_, rfl, if1 rfl ⟨_, rfl, rfl, _, rfl, rfl, ?_⟩⟩
      show oEq (D.bl _) (D.bl _) _
      refine oEq_flat (.bl _) ?_
      refine ⟨_, rfl, if1 rfl ⟨_, rfl, _, rfl, ?_⟩⟩
      exact oEq_flat (.bl k) h
    | int k =>
      refine ⟨_, rfl, rfl, _, rfl, if0 rfl ⟨_, rfl, _, rfl, if0 rfl ⟨_, rfl, _, rfl, if0 rfl ⟨_, rfl, rfl, _, rfl, if0 rfl ⟨_, rfl, rfl, _, rfl, if0 rfl ⟨_, rfl, rfl, _, rfl, rfl, ?_⟩⟩⟩⟩⟩⟩
      show oEq (D.bl _) (D.bl _) _
      refine oEq_flat (.bl _) ?_
      refine ⟨_, rfl, if1 rfl ⟨_, rfl, rfl, _, rfl, rfl, ?_⟩⟩
      show oEq (D.bl _) (D.bl _) _
      refine oEq_flat (.bl _) ?_
      refine ⟨_, rfl, if1 rfl ⟨_, rfl, _, rfl, ?_⟩⟩
      exact oEq_flat (.int k) h
    | str z hz =>
      refine ⟨_, rfl, rfl, _, rfl, if0 rfl ⟨_, rfl, _, rfl, if0 rfl ⟨_, rfl, _, rfl, if0 rfl ⟨_, rfl, rfl, _, rfl, if0 rfl ⟨_, rfl, rfl, _, rfl, if0 rfl ⟨_, rfl, rfl, _, rfl, rfl, ?_⟩⟩⟩⟩⟩⟩
      show oEq (D.bl _) (D.bl _) _
      refine oEq_flat (.bl _) ?_
      refine ⟨_, rfl, if1 rfl ⟨_, rfl, rfl, _, rfl, rfl, ?_⟩⟩
      show oEq (D.bl _) (D.bl _) _
      refine oEq_flat (.bl _) ?_
      refine ⟨_, rfl, if1 rfl ⟨_, rfl, _, rfl, ?_⟩⟩
      exact oEq_flat (.str z hz) h
  cases n with
  | zero => exact flat hd
  | succ n =>
    rcases hd with hd | ⟨ds, rfl, hl, hd⟩
    · exact flat hd
    · refine ⟨_, rfl, rfl, _, rfl, if1 rfl ⟨_, rfl, rfl, _, rfl, if0 rfl ⟨_, rfl, _, rfl, ?_⟩⟩⟩
      dsimp only [tNilT, oLen]
      refine oNe_en ((ds.length : Nat) : Int) ((ds.length : Nat) : Int) trivial trivial (by decide) ⟨_, rfl, ?_⟩
      refine if0 (by simp) ?_
      refine ⟨_, rfl, ds.length, rfl, ⟨by omega, by omega⟩, by simp [rngD]; omega, ?_⟩
      rw [Int.toNat_natCast]
      unfold rngD
      refine lcL_xs (fun i : Nat => D.int ((0 : Int) + (i : Nat))) (fun _ => none) _ _ (fun i hi K1 K0 h1 h0 => ?_) ?_
      · have hi' : i < ds.length := by simpa using hi
        have hat : atI ds ((0 : Int) + (i : Nat)) = some ds[i] := atI_of (i := i) (by omega) (by simp [hi'])
        exact ⟨_, rfl, _, rfl, ds[i], hat, _, rfl, _, rfl, ds[i], hat, ds[i], rfl, hd _ (List.getElem_mem hi'), _, rfl, if0 rfl (h0 rfl)⟩
      · have e : ∀ l : List Nat, l.filterMap (fun _ => (none : Option D)) = [] := fun l => by induction l <;> simp_all
        rw [e]
        exact oEq_flat (Q := fun d => Q d g) (.int 0) h
end TL
set_option Elab.async false
set_option linter.all false
set_option maxRecDepth 100000
/-! VF2: what the program tells. -/
namespace TL
open PySem PySem.Spec PyProof.Rows L2
def TR (c1 c2 : Car) (z : Str) (whole : Bool) (Q : D → Prop) : Prop :=
  if whole = true then ((AlikeP c1 c2 z → Q (.tup [.bl true, .str "alike"])) ∧ (¬ AlikeP c1 c2 z → Q (.tup [.bl true, .str "apart"])))
  else ∀ p : Nat → Bool, (∀ k ∈ z.cps.toList, p k = true ↔ AlikeP c1 c2 (sg k)) → Q (.tup [.bl true, .str (SX.S (z.cps.toList.filter p))])
theorem TR.mono {c1 c2 : Car} {z : Str} {whole : Bool} {Q Q' : D → Prop} (w : ∀ d, Q d → Q' d) (h : TR c1 c2 z whole Q) : TR c1 c2 z whole Q' := by
  unfold TR at h ⊢
  cases whole with
  | true => rw [if_pos rfl] at h ⊢; exact ⟨fun a => w _ (h.1 a), fun a => w _ (h.2 a)⟩
  | false => rw [if_neg Bool.false_ne_true] at h ⊢; exact fun p a => w _ (h p a)
def SP__law_told : TSp := fun b ds g Q E => ∃ (c1 c2 : Car) (z : Str) (whole : Bool), ds = [.lst [c1.d, c2.d], .str z, .bl whole] ∧ (GoodCar c1 ∧ GoodCar c2 ∧ En.ok z) ∧ Checked c1 c2 z (TR c1 c2 z whole fun d => Q d g) g fun g cn ns es => Q (faultD cn es) g
theorem ok__law_told : SpOk 3 SP__law_told := ⟨fun b ds g Q E ⟨c, c2, z, wh, e, _⟩ => by rw [e]; rfl, fun b ds g Q Q' E E' w w' ⟨c, c2, z, wh, e, h, q⟩ => ⟨c, c2, z, wh, e, h, q.mono (fun _ _ _ => TR.mono fun d => w d g) fun _ _ _ => w _ _⟩⟩
theorem three_big : 3 ≤ sizeLine := Nat.le_trans (Nat.le_of_ble_eq_true rfl : 3 ≤ 1000000) sizeLine_big
theorem v__law_told (b : B) (ds g Q X) (h : SP__law_told b ds g Q X) : VC (t__law_told (b := b) SP_alike SP_alike_bells) ["pair", "bells", "whole", "answer", "e"] ds g Q X := by
  obtain ⟨c1, c2, z, whole, rfl, ⟨h1, h2, hz⟩, h⟩ := h
  have hb := sizeLine_big
  cases whole with
  | true =>
    refine ⟨_, rfl, _, rfl, if1 rfl ?_⟩
    refine ⟨_, rfl, c1.d, rfl, _, rfl, c2.d, rfl, _, rfl, c1, c2, z, rfl, ⟨h1, h2, hz⟩, ?_⟩
    refine Checked.mono2 (fun e1 e2 e3 h => ?_) (fun h => ?_) (fun f h => ?_) h
    · unfold TR at h
      rw [if_pos rfl] at h
      refine ⟨fun m hm he => ?_, fun m r w hm hp hwo => ?_⟩
      · refine ⟨_, rfl, rfl, _, rfl, if0 rfl ⟨_, rfl, ?_⟩⟩
        dsimp only [tCon, tNilT, oLen]
        show oNe (D.int 2) (D.int 2) _
        refine oNe_en (2 : Int) 2 trivial trivial (by decide) ⟨_, rfl, if0 rfl ?_⟩
        exact ⟨_, rfl, .str "alike", rfl, two_big, h.1 ⟨m, hm, he⟩⟩
      · refine ⟨_, rfl, rfl, _, rfl, if0 rfl ⟨_, rfl, ?_⟩⟩
        dsimp only [tCon, tNilT, oLen]
        show oNe (D.int 2) (D.int 2) _
        refine oNe_en (2 : Int) 2 trivial trivial (by decide) ⟨_, rfl, if0 rfl ?_⟩
        exact ⟨_, rfl, .str "apart", rfl, two_big, h.2 fun ⟨m', hm', he⟩ => hp.top (by rw [stable_one hm hm']; exact he)⟩
    · rw [faultD_b] at h
      exact .inl ⟨List.mem_cons_self .., fun a => ⟨.hnd a, rfl, rfl, _, rfl, _, rfl, if0 rfl ⟨.hnd a, rfl, rfl, .hnd a, rfl, rfl, .str z, rfl, three_big, h⟩⟩⟩
    · rw [faultD_u] at h
      exact .inr ⟨List.mem_cons_of_mem _ (List.mem_cons_self ..), .inl ⟨List.mem_cons_of_mem _ (List.mem_cons_self ..), fun a => ⟨.hnd a, rfl, rfl, _, rfl, .hnd a, rfl, rfl, .str f, rfl, three_big, h⟩⟩⟩
  | false =>
    refine ⟨_, rfl, _, rfl, if0 rfl ?_⟩
    refine ⟨_, rfl, c1.d, rfl, _, rfl, c2.d, rfl, _, rfl, c1, c2, z, rfl, ⟨h1, h2, hz⟩, ?_⟩
    refine Checked.mono2 (fun e1 e2 e3 h p hp => ?_) (fun h => ?_) (fun f h => ?_) h
    · unfold TR at h
      rw [if_neg Bool.false_ne_true] at h
      exact ⟨two_big, h p hp⟩
    · rw [faultD_b] at h
      exact .inl ⟨List.mem_cons_self .., fun a => ⟨.hnd a, rfl, rfl, _, rfl, _, rfl, if0 rfl ⟨.hnd a, rfl, rfl, .hnd a, rfl, rfl, .str z, rfl, three_big, h⟩⟩⟩
    · rw [faultD_u] at h
      exact .inr ⟨List.mem_cons_of_mem _ (List.mem_cons_self ..), .inl ⟨List.mem_cons_of_mem _ (List.mem_cons_self ..), fun a => ⟨.hnd a, rfl, rfl, _, rfl, .hnd a, rfl, rfl, .str f, rfl, three_big, h⟩⟩⟩
end TL
set_option Elab.async false
set_option linter.all false
set_option maxRecDepth 100000
/-! VS6: the store made. -/
namespace TL
open PySem PySem.Spec PyProof.Rows L2
def entD (p : Int × Int) : D := .lst [.int p.1, .int p.2]
def storeD (es : List (Int × Int)) (seed : Int) : D := .lst [.lst (es.map entD), .int 0, .int 0, .int seed]
/-- the list at a, only read; u: what lies there -/
def scB (K : PySem.W.Frag) (a : Addr) (vs : List V) (u : Option HO) : B where
  K := K
  G := Unit
  Γ := fun x => x = a ∧ u ≠ none
  Φ := fun _ H => (∃ o, u = some o ∧ H a = some o ∧ (o = .lst vs ∨ ∃ z, o = .frz z (.lst vs))) ∨ (u = none ∧ ∀ H', SqL K H' a vs)
  stab := fun g H H' h k => h.imp (fun ⟨o, e, r, q⟩ => ⟨o, e, k a _ ⟨rfl, by rw [e]; exact fun z => by cases z⟩ r, q⟩) id
  there := fun g H x h gx z => by
    obtain ⟨rfl, hp⟩ := gx
    rcases h with ⟨o, _, r, _⟩ | ⟨n, _⟩
    · rw [r] at z; cases z
    · exact hp n
def scI (K : PySem.W.Frag) (a : Addr) (vs : List V) (u : Option HO) : GRO (scB K a vs u) where
  ro := fun x xs => x = a ∧ xs = vs
  get := fun g H x xs h e => by
    obtain ⟨rfl, rfl⟩ := e
    rcases h with ⟨o, _, r, rfl | ⟨z, rfl⟩⟩ | ⟨_, r⟩
    · exact .inl (.inl r)
    · exact .inl (.inr ⟨z, r⟩)
    · exact r H
/-- xs: the script's numbers, at a -/
def SP__law_store (a : Addr) (xs : List Int) (u : Option HO) : TSp := fun b ds g Q E => (b = scB b.K a (xs.map V.int) u ∧ ds = [.hnd a]) ∧ ∀ es seed, es.length = xs.length → Q (storeD es seed) g
theorem ok__law_store (a : Addr) (xs : List Int) (u : Option HO) : SpOk 1 (SP__law_store a xs u) := ⟨fun b ds g Q E ⟨e, _⟩ => by rw [e.2]; rfl, fun b ds g Q Q' E E' w w' ⟨e, q⟩ => ⟨e, fun es s h1 => w _ _ (q es s h1)⟩⟩
theorem great_bits : (Builtin.Int.intBits ((10 : Int) ^ (60 : Int).toNat) : Int) * 10 ≤ 2 ^ 27 := by decide +kernel
theorem v__law_store (K : PySem.W.Frag) (a : Addr) (xs : List Int) (u : Option HO) (hx : xs.length ≤ 63) (ds g Q X) (h : SP__law_store a xs u (scB K a (xs.map V.int) u) ds g Q X) : VC (t__law_store (b := scB K a (xs.map V.int) u) (scI K a (xs.map V.int) u) SP__law_mix) ["script", "great", "cells", "seed", "cell"] ds g Q X := by
  obtain ⟨⟨_, rfl⟩, h⟩ := h
  have hb := sizeLine_big
  refine ⟨⟨by decide, by decide +kernel⟩, ⟨by decide, great_bits⟩, ?_⟩
  have hG : (0 : Int) < ((10 : Int) ^ (60 : Int).toNat) ^ (10 : Int).toNat := Int.pow_pos (Int.pow_pos (by decide))
  generalize ((10 : Int) ^ (60 : Int).toNat) ^ (10 : Int).toNat = G at hG
  refine ⟨Nat.zero_le _, _, rfl, a, _, rfl, ⟨rfl, rfl⟩, cmulL (by decide), _, rfl, a, _, rfl, ⟨⟨rfl, rfl⟩, ?_⟩, ?_⟩
  · rw [List.all_map]; exact List.all_eq_true.mpr fun _ _ => rfl
  rw [List.map_map]
  show forL _ _ _ _ (xs.map D.int) _ _
  refine forL_xs D.int (fun (rest : List Int) ρ g1 => g1 = g ∧ ∃ (es : List (Int × Int)) (seed : Int) (x4 : Option D), ρ = [some (.hnd a), some (.int G), some (.lst (es.map entD)), some (.int seed), x4] ∧ es.length + rest.length = xs.length) xs _ _ (fun x rest ρ g1 K hK ⟨eg, es, seed, x4, eρ, hl⟩ => ?_) (fun ρ g1 ⟨eg, es, seed, x4, eρ, hl⟩ => ?_) ⟨rfl, [], _, none, rfl, by simp⟩
  · subst eg eρ
    rw [List.length_cons] at hl
    have fin : ∀ (r p q : Int), K [some (.hnd a), some (.int G), some (.lst (es.map entD ++ [.lst [.int p, .int q]])), some (.int r), some (.int x)] g1 := fun r p q => by
      refine hK _ _ ⟨rfl, es ++ [(p, q)], r, some (.int x), by simp [entD], ?_⟩
      simp only [List.length_append, List.length_cons, List.length_nil]
      omega
    have hll : (es.map entD).length < sizeLine := by simp; omega
    refine ⟨_, rfl, by decide, _, rfl, _, _, rfl, fun r _ _ => ?_⟩
    refine ⟨_, rfl, ⟨by decide, by decide +kernel⟩, _, rfl, ifB (fun _ => ?_) fun _ => ?_⟩
    · exact ⟨⟨_, rfl⟩, _, rfl, _, rfl, hG, (Nat.le_trans (Nat.le_of_ble_eq_true rfl : 2 ≤ 1000000) hb), _, rfl, hll, fin _ _ _⟩
    · refine ⟨_, rfl, ⟨by decide, by decide +kernel⟩, _, rfl, ifB (fun _ => ?_) fun _ => ?_⟩
      · exact ⟨⟨_, rfl⟩, _, rfl, _, rfl, hG, (Nat.le_trans (Nat.le_of_ble_eq_true rfl : 2 ≤ 1000000) hb), _, rfl, hll, fin _ _ _⟩
      · exact ⟨⟨_, rfl⟩, _, rfl, rfl, (Nat.le_trans (Nat.le_of_ble_eq_true rfl : 2 ≤ 1000000) hb), _, rfl, hll, fin _ _ _⟩
  · subst eg eρ
    exact ⟨_, rfl, _, rfl, rfl, Nat.le_trans (Nat.le_of_ble_eq_true rfl : 4 ≤ 1000000) hb, h es seed (by simpa using hl)⟩
end TL
set_option Elab.async false
set_option linter.all false
set_option maxRecDepth 100000
/-! VS7: tones drawn and bent. -/
namespace TL
open PySem PySem.Spec PyProof.Rows L2
theorem cutD_take (ds : List D) (k : Nat) : cutD ds none (some (k : Int)) = ds.take k := by
  unfold cutD
  rw [HT.sIx_none, HT.sIx_nat, List.drop_zero, Nat.sub_zero]
  by_cases h : k ≤ ds.length
  · rw [Nat.min_eq_left h]
  · rw [Nat.min_eq_right (by omega), List.take_length, List.take_of_length_le (by omega)]
theorem cutD_drop (ds : List D) (k : Nat) : cutD ds (some (k : Int)) none = ds.drop k := by
  unfold cutD
  rw [HT.sIx_none, HT.sIx_nat]
  by_cases h : k ≤ ds.length
  · rw [Nat.min_eq_left h, List.take_of_length_le (by simp)]
  · rw [Nat.min_eq_right (by omega), List.drop_length, List.drop_of_length_le (by omega)]; simp
theorem good_of {slot : List Str} (h1 : ∀ x ∈ slot, x ∈ marks) (h2 : slot.Pairwise fun x y => ltS x y = true) : GoodSlot slot := by
  refine ⟨h1, fun i x y hx hy => ?_⟩
  clear h1
  induction slot generalizing i with
  | nil => simp at hx
  | cons a l ih =>
    obtain ⟨b1, b2⟩ := List.pairwise_cons.mp h2
    cases i with
    | zero =>
      simp at hx hy
      subst hx
      exact b1 y (List.mem_of_getElem? hy)
    | succ i => exact ih b2 i (by simpa using hx) (by simpa using hy)
theorem marks_pair : marks.Pairwise fun x y => ltS x y = true := by decide +kernel
theorem good_sub {slot : List Str} (h : slot.Sublist marks) : GoodSlot slot := good_of (fun x hx => h.subset hx) (marks_pair.sublist h)
theorem marks_get : (List.range 12).map (fun k => marks.getD k ("" : Str)) = marks := by decide +kernel
def SP__law_tones : TSp := fun b ds g Q E => ∃ (a : Addr) (n : Nat), ds = [.hnd a, .int n] ∧ (1 ≤ n ∧ n ≤ 24 ∧ StoreOk b g a) ∧ ∀ (sc : Score) g', sc.length = n → (∀ s ∈ sc, GoodSlot s) → StoreOk b g' a → Q (En.d sc) g'
theorem ok__law_tones : SpOk 2 SP__law_tones := ⟨fun b ds g Q E ⟨i, j, e, _⟩ => by rw [e]; rfl, fun b ds g Q Q' E E' w w' ⟨i, j, e, h, q⟩ => ⟨i, j, e, h, fun d g' h1 h2 h3 => w _ _ (q d g' h1 h2 h3)⟩⟩
theorem rep_en {α : Type} [En α] (k : Nat) (xs : List α) : (List.replicate k (xs.map En.d)).flatten = ((List.replicate k xs).flatten).map En.d := by
  rw [List.map_flatten, List.map_replicate]
theorem take_en {α : Type} [En α] (k : Nat) (xs : List α) : (xs.map (En.d (α := α))).take k = (xs.take k).map En.d := by rw [List.map_take]
theorem drop_en {α : Type} [En α] (k : Nat) (xs : List α) : (xs.map (En.d (α := α))).drop k = (xs.drop k).map En.d := by rw [List.map_drop]
theorem v__law_tones (b : B) (ds g Q X) (h : SP__law_tones b ds g Q X) : VC (t__law_tones (b := b) SP__law_take SP__law_pick) ["store", "span", "signs", "slots", "spot", "mask", "k", "length"] ds g Q X := by
  obtain ⟨a, n, rfl, ⟨hn1, hn2, hs⟩, h⟩ := h
  have hb := sizeLine_big
  refine ⟨Nat.le_trans (Nat.le_of_ble_eq_true rfl : 12 ≤ 1000000) hb, Nat.zero_le _, _, rfl, n, rfl, ⟨by omega, by omega⟩, ?_⟩
  rw [Int.toNat_natCast]
  unfold rngD
  refine forL_xs (fun i : Nat => D.int ((0 : Int) + (i : Nat))) (fun (rest : List Nat) ρ g1 => StoreOk b g1 a ∧ ∃ (acc : Score) (x4 x5 x6 : Option D), ρ = [some (.hnd a), some (.int n), some (.lst (marks.map D.str)), some (.lst (acc.map En.d)), x4, x5, x6, none] ∧ acc.length + rest.length = n ∧ ∀ s ∈ acc, GoodSlot s) _ _ _ (fun i rest ρ g1 K hK ⟨hs1, acc, x4, x5, x6, eρ, hl, hg⟩ => ?_) (fun ρ g1 ⟨hs1, acc, x4, x5, x6, eρ, hl, hg⟩ => ?_) ⟨hs, [], none, none, none, rfl, by simp, fun s hs => by simp at hs⟩
  · subst eρ
    rw [List.length_cons] at hl
    refine ⟨_, rfl, a, 4096, rfl, ⟨by decide, hs1⟩, fun r1 g2 hs2 _ _ => ?_⟩
    refine ⟨_, rfl, a, 4096, rfl, ⟨by decide, hs2⟩, fun r2 g3 hs3 _ _ => ?_⟩
    refine ⟨⟨_, rfl⟩, 12, rfl, ⟨by decide, by decide⟩, by simp [rngD]; omega, ?_⟩
    refine lcL_inv (fun k : Nat => D.int ((0 : Int) + (k : Nat))) (fun (rest : List Nat) acc2 g4 => g4 = g3 ∧ ∃ (ks' : List Nat) (sl : List Str), acc2 = sl.map D.str ∧ ks' ++ rest = List.range 12 ∧ sl.Sublist (ks'.map fun k => marks.getD k ("" : Str))) _ _ _ (fun k rest2 acc2 g4 K1 K0 ⟨eg, ks', sl, e1, e2, e3⟩ h1 h0 => ?_) (fun acc2 g4 ⟨eg, ks', sl, e1, e2, e3⟩ => ?_) ⟨rfl, [], [], rfl, rfl, List.Sublist.refl _⟩
    · subst eg
      have hk : k < 12 := by
        have : k ∈ List.range 12 := by rw [← e2]; simp
        simpa using this
      refine ⟨_, rfl, _, rfl, by omega, by decide, ?_⟩
      dsimp only [tCon]
      have hmap : (ks' ++ [k]).map (fun k => marks.getD k ("" : Str)) = ks'.map (fun k => marks.getD k ("" : Str)) ++ [marks.getD k ("" : Str)] := by simp
      show oEq (D.int _) (D.int 1) _
      refine oEq_en (α := Int) _ 1 trivial trivial (by decide) ⟨_, rfl, ifB (fun _ => ?_) fun _ => ?_⟩
      · have hk' : k < marks.length := hk
        refine ⟨_, rfl, _, rfl, .str (marks.getD k ("" : Str)), atI_of (i := k) (by omega) ?_, h1 _ _ ⟨rfl, ks' ++ [k], sl ++ [marks.getD k ("" : Str)], ?_, by rw [← e2]; simp, ?_⟩⟩
        · rw [List.getElem?_map, List.getD_eq_getElem?_getD, List.getElem?_eq_getElem hk']; rfl
        · rw [e1, List.map_append]; rfl
        · rw [hmap]; exact e3.append (List.Sublist.refl _)
      · refine h0 _ ⟨rfl, ks' ++ [k], sl, e1, by rw [← e2]; simp, ?_⟩
        rw [hmap]
        exact e3.trans (List.sublist_append_left _ _)
    · subst eg
      rw [List.append_nil] at e2
      subst e2
      rw [marks_get] at e3
      subst e1
      refine ⟨_, rfl, by simp; omega, hK _ _ ⟨hs3, acc ++ [sl], some (.int ((0 : Int) + (i : Nat))), some (.int (Builtin.bitAnd r1 r2)), x6, ?_, ?_, ?_⟩⟩
      · rw [List.map_append]; rfl
      · simp only [List.length_append, List.length_cons, List.length_nil]; omega
      · intro s hs
        rcases List.mem_append.mp hs with hs | hs
        · exact hg s hs
        · rw [List.mem_singleton.mp hs]; exact good_sub e3
  · subst eρ
    rw [List.length_nil, Nat.add_zero] at hl
    refine ⟨_, rfl, _, rfl, 1, (n : Int) + 1, rfl, rfl, ⟨⟨by decide, by decide⟩, by omega, by omega⟩, by simp [rngD]; omega, ?_⟩
    rw [show ((n : Int) + 1 - 1).toNat = n by omega]
    unfold rngD
    refine lcL_xs (fun i : Nat => D.int ((1 : Int) + (i : Nat))) (fun i => if n % (1 + i) = 0 then some (D.int ((1 : Int) + (i : Nat))) else none) _ _ (fun i hi K1 K0 h1 h0 => ?_) ?_
    · refine ⟨_, rfl, _, rfl, by omega, ?_⟩
      dsimp only [tCon]
      have e : ((n : Int) % ((1 : Int) + (i : Nat)) = 0) ↔ n % (1 + i) = 0 := by
        rw [show (1 : Int) + (i : Nat) = ((1 + i : Nat) : Int) by omega]
        omega
      refine oEq_en ((n : Int) % ((1 : Int) + (i : Nat))) 0 trivial trivial (by decide) ⟨_, rfl, ifB (fun q => ?_) fun q => ?_⟩
      · exact ⟨_, rfl, rfl, h1 _ (by rw [if_pos (e.mp q)])⟩
      · exact h0 (by rw [if_neg (fun z => q (e.mpr z))])
    · rw [List.nil_append]
      have hlen : ((List.range n).filterMap fun i => if n % (1 + i) = 0 then some (D.int ((1 : Int) + (i : Nat))) else none).length ≤ n := Nat.le_trans (List.length_filterMap_le _ _) (by simp)
      have h1m : D.int ((1 : Int) + ((0 : Nat) : Int)) ∈ (List.range n).filterMap fun i => if n % (1 + i) = 0 then some (D.int ((1 : Int) + (i : Nat))) else none := List.mem_filterMap.mpr ⟨0, by simp; omega, by rw [if_pos (by omega)]⟩
      refine ⟨a, _, rfl, ⟨List.length_pos_of_mem h1m, by omega, hs1, fun d hd => ?_⟩, fun d g2 hd hs2 => ?_⟩
      · obtain ⟨i, _, hi⟩ := List.mem_filterMap.mp hd
        by_cases q : n % (1 + i) = 0
        · rw [if_pos q] at hi; cases hi; rfl
        · rw [if_neg q] at hi; cases hi
      · obtain ⟨i, hir, hi⟩ := List.mem_filterMap.mp hd
        have hir : i < n := by simpa using hir
        by_cases q : n % (1 + i) = 0
        · rw [if_pos q] at hi
          cases hi
          obtain ⟨m, hm⟩ := Nat.dvd_of_mod_eq_zero q
          have hm0 : 0 < m := by
            rcases Nat.eq_zero_or_pos m with z | z
            · rw [z] at hm; omega
            · exact z
          have hmn : m ≤ n := by
            rw [hm, Nat.add_mul]; omega
          have ediv : (n : Int) / ((1 : Int) + (i : Nat)) = (m : Nat) := by
            rw [show (1 : Int) + (i : Nat) = ((1 + i : Nat) : Int) by omega, ← Int.natCast_ediv, hm, Nat.mul_div_cancel_left _ (by omega)]
          refine ⟨_, rfl, _, rfl, _, rfl, ?_⟩
          rw [show (1 : Int) + (i : Nat) = ((1 + i : Nat) : Int) by omega]
          dsimp only [oSl]
          rw [cutD_take, take_en]
          refine ⟨_, rfl, _, rfl, ⟨by omega, ?_⟩, ?_⟩
          · refine (Nat.log2_lt (by omega)).mpr ?_
            exact Nat.lt_of_lt_of_le (show ((1 + i : Nat) : Int).natAbs < 2 ^ 40 by omega) (Nat.pow_le_pow_right (by decide) (by decide))
          · rw [show ((1 + i : Nat) : Int) = (1 : Int) + (i : Nat) by omega, ediv]
            have htl : (acc.take (1 + i)).length = 1 + i := by rw [List.length_take]; omega
            refine ⟨⟨fun z => ?_, by omega, by omega, by rw [List.length_map, htl]; omega⟩, ?_⟩
            · have := congrArg List.length z
              rw [List.length_map, htl] at this
              simp at this
            · rw [Int.toNat_natCast, rep_en]
              refine h _ g2 ?_ (fun s hs => ?_) hs2
              · rw [List.length_flatten, List.map_replicate, List.sum_replicate_nat, htl, hm, Nat.mul_comm]
              · obtain ⟨l, hl1, hl2⟩ := List.mem_flatten.mp hs
                rw [(List.mem_replicate.mp hl1).2] at hl2
                exact hg s (List.mem_of_mem_take hl2)
        · rw [if_neg q] at hi; cases hi
/-! ### bent -/
theorem rising_adj : ∀ (r : List Str) (p : Str), risingS p r = true → ∀ i x y, (p :: r)[i]? = some x → (p :: r)[i + 1]? = some y → ltCps y.cps.toList x.cps.toList = false
  | [], p, _, i, x, y, _, hy => by simp at hy
  | z :: r, p, h, i, x, y, hx, hy => by
    unfold risingS at h
    obtain ⟨h1, h2⟩ := Bool.and_eq_true_iff.mp h
    cases i with
    | zero =>
      simp at hx hy
      subst hx hy
      simpa using h1
    | succ i => exact rising_adj r z h2 i x y (by simpa using hx) (by simpa using hy)
theorem sorted_good {ys : List Str} (h1 : ∀ x ∈ ys, x ∈ marks) (hn : ys.Nodup) (hs : sortedS ys = true) : GoodSlot ys := by
  refine ⟨h1, fun i x y hx hy => ?_⟩
  have hle : ltCps y.cps.toList x.cps.toList = false := by
    cases ys with
    | nil => simp at hx
    | cons p r => exact rising_adj r p hs i x y hx hy
  rw [ltCps_eq] at hle
  have hle := of_decide_eq_false hle
  refine decide_eq_true (Decidable.byContradiction fun hlt => ?_)
  have e : x.cps.toList = y.cps.toList := List.le_antisymm (show ¬ y.cps.toList < x.cps.toList from hle) (show ¬ x.cps.toList < y.cps.toList from hlt)
  have e2 : x = y := by rw [← SX.S_tl x, ← SX.S_tl y, e]
  subst e2
  have hi : i < ys.length := (List.getElem?_eq_some_iff.mp hx).1
  have := (List.getElem?_inj hi hn).mp (hx.trans hy.symm)
  omega
abbrev bsig : List Str := ["a", "b", "c", "f", "!a", "!f", "d", "e"]
theorem bsig_marks : ∀ x ∈ bsig, x ∈ marks := by decide +kernel
theorem marks_ok : ∀ x ∈ marks, PyData.strOk x = true := by decide +kernel
theorem filt_str (p : Str → Bool) (ks : List Str) : (ks.filterMap fun k => if p k = true then some (D.str k) else none) = (ks.filter p).map D.str := by
  induction ks with
  | nil => rfl
  | cons k ks ih => by_cases h : p k = true <;> simp [h, ih]
def SP__law_bent_tone : TSp := fun b ds g Q E => ∃ (a : Addr) (sc : Score), ds = [.hnd a, En.d sc] ∧ (1 ≤ sc.length ∧ sc.length ≤ 24 ∧ (∀ s ∈ sc, GoodSlot s) ∧ StoreOk b g a) ∧ ∀ (sc' : Score) g', sc'.length = sc.length → (∀ s ∈ sc', GoodSlot s) → StoreOk b g' a → Q (En.d sc') g'
theorem ok__law_bent_tone : SpOk 2 SP__law_bent_tone := ⟨fun b ds g Q E ⟨i, j, e, _⟩ => by rw [e]; rfl, fun b ds g Q Q' E E' w w' ⟨i, j, e, h, q⟩ => ⟨i, j, e, h, fun d g' h1 h2 h3 => w _ _ (q d g' h1 h2 h3)⟩⟩
theorem v__law_bent_tone (b : B) (ds g Q X) (h : SP__law_bent_tone b ds g Q X) : VC (t__law_bent_tone (b := b) SP__law_take SP__law_pick) ["store", "score", "at", "sign", "slot", "item"] ds g Q X := by
  obtain ⟨a, sc, rfl, ⟨hn1, hn2, hg, hs⟩, h⟩ := h
  have hb := sizeLine_big
  refine ⟨_, rfl, _, rfl, a, ((sc.map (En.d (α := List Str))).length : Nat), rfl, ⟨by simp; omega, hs⟩, fun r g1 hs1 h0 hr => ?_⟩
  have hr' : r.toNat < sc.length := by rw [List.length_map] at hr; omega
  obtain ⟨i, hi⟩ : ∃ i : Nat, r = (i : Int) := ⟨r.toNat, by omega⟩
  subst hi
  rw [Int.toNat_natCast] at hr'
  refine ⟨_, rfl, Nat.le_trans (Nat.le_of_ble_eq_true rfl : 8 ≤ 1000000) hb, a, bsig.map D.str, rfl, ⟨by decide, by decide, hs1, fun d hd => ?_⟩, fun d g2 hd hs2 => ?_⟩
  · obtain ⟨w, _, rfl⟩ := List.mem_map.mp hd; rfl
  obtain ⟨w, hw, rfl⟩ := List.mem_map.mp hd
  have hwm := bsig_marks w hw
  have hgi := hg _ (List.getElem_mem hr')
  have hsl := slot_len hgi
  have hat : atI (sc.map (En.d (α := List Str))) (i : Int) = some (En.d sc[i]) := atI_nat (by rw [List.getElem?_map, List.getElem?_eq_getElem hr']; rfl)
  generalize hsi : sc[i] = slot at hgi hsl hat
  refine ⟨_, rfl, _, rfl, En.d slot, hat, by simp; omega, ?_⟩
  refine lcL_xs D.str (fun k => if (!decide (k = w)) = true then some (D.str k) else none) slot [] (fun k hk K1 K0 h1 h0 => ?_) ?_
  · refine ⟨_, rfl, _, rfl, ?_⟩
    refine oNe_en k w (marks_ok k (hgi.1 k hk)) (marks_ok w hwm) (by decide) ⟨_, rfl, ?_⟩
    cases q : (!decide (k = w)) with
    | true => exact ⟨_, rfl, rfl, h1 _ (by rw [if_pos q])⟩
    | false => exact h0 (by rw [if_neg (by rw [q]; exact Bool.false_ne_true)])
  · rw [List.nil_append, filt_str]
    refine ⟨_, rfl, rfl, Nat.le_trans (Nat.le_of_ble_eq_true rfl : 1 ≤ 1000000) hb, _, rfl, _, rfl, _, rfl, En.d slot, hat, ⟨rfl, flat_strs slot⟩, ?_⟩
    have hnd : (slot.filter fun k => !decide (k = w)).Nodup := by
      refine List.Pairwise.filter _ ?_
      refine (good_pair hgi).imp fun {x y} hxy e => ?_
      subst e
      exact List.lt_irrefl _ hxy
    have hfl : (slot.filter fun k => !decide (k = w)).length ≤ 12 := Nat.le_trans (List.length_filter_le _ _) hsl
    have key : ∀ m : Nat, m ≤ 1 → (∃ ss : List Str, ((slot.filter fun k => !decide (k = w)).map D.str ++ (List.replicate m [D.str w]).flatten = ss.map D.str ∧ ss.length < 64) ∧ ss.Nodup ∧ ∀ x ∈ ss, x ∈ marks) := fun m hm => by
      refine ⟨(slot.filter fun k => !decide (k = w)) ++ List.replicate m w, ⟨?_, by simp only [List.length_append, List.length_replicate]; omega⟩, ?_, fun x hx => ?_⟩
      · rw [List.map_append, List.map_replicate]
        congr 1
        induction m with
        | zero => rfl
        | succ m ih => rw [List.replicate_succ, List.flatten_cons, ih (by omega), List.replicate_succ]; rfl
      · refine List.nodup_append.mpr ⟨hnd, ?_, fun x hx y hy e => ?_⟩
        · rcases (show m = 0 ∨ m = 1 by omega) with rfl | rfl <;> simp
        · have e1 := (List.mem_replicate.mp hy).2
          have e2 := (List.mem_filter.mp hx).2
          rw [e, e1] at e2
          simp at e2
      · rcases List.mem_append.mp hx with hx | hx
        · exact hgi.1 x (List.mem_filter.mp hx).1
        · rw [(List.mem_replicate.mp hx).2]; exact hwm
    have fin : ∀ (m : Int), (m = 0 ∨ m = 1) → oMul (.lst [.str w]) (.int m) fun d => oAdd (.lst ((slot.filter fun k => !decide (k = w)).map D.str)) d fun d => oSortS [d] fun d => oTuple [d] fun d => tRetT (tOpT oAdd (tOpT oAdd (tSlT (tVarT 1) tNoT (tAtT (tVarT 2))) (tTupT (tConsT (tChk (tVarT 4)) tNilT))) (tSlT (tVarT 1) (tAtT (tOpT oAdd (tVarT 2) (tCon (.int 1)))) tNoT)) { nx := fun _ g => Q .non g, rt := Q } (fun _ => X) [some (.hnd a), some (En.d sc), some (.int (i : Nat)), some (.str w), some d, none] g2 := fun m hm => by
      refine ⟨⟨by omega, by omega, by simp only [List.length_cons, List.length_nil]; omega⟩, ?_⟩
      have hm1 : m.toNat ≤ 1 := by omega
      refine ⟨?_, ?_⟩
      · simp only [List.length_map, List.length_flatten, List.map_replicate, List.sum_replicate_nat, List.length_cons, List.length_nil]; omega
      obtain ⟨ss, ⟨e1, e2⟩, e3, e4⟩ := key m.toNat hm1
      refine ⟨ss, ⟨e1, e2⟩, fun ys hp hso => ?_⟩
      have gy : GoodSlot ys := sorted_good (fun x hx => e4 x (hp.mem_iff.mp hx)) (hp.nodup_iff.mpr e3) hso
      refine ⟨_, rfl, _, rfl, _, rfl, ?_⟩
      dsimp only [oSl, En.d_list]
      rw [cutD_take, take_en]
      refine ⟨_, rfl, rfl, Nat.le_trans (Nat.le_of_ble_eq_true rfl : 1 ≤ 1000000) hb, ?_⟩
      have tl : (sc.take i).length = i := by rw [List.length_take]; omega
      have dl : (sc.drop (i + 1)).length = sc.length - (i + 1) := List.length_drop
      refine ⟨by simp only [List.length_map, tl, List.length_cons, List.length_nil]; omega, _, rfl, _, rfl, _, rfl, ?_⟩
      dsimp only [oSl, En.d_list, tNoT]
      rw [show (i : Int) + 1 = ((i + 1 : Nat) : Int) by omega, cutD_drop, drop_en]
      refine ⟨by simp only [List.length_append, List.length_map, tl, dl, List.length_cons, List.length_nil]; omega, ?_⟩
      have e : (sc.take i).map (En.d (α := List Str)) ++ [D.tup (ys.map D.str)] ++ (sc.drop (i + 1)).map En.d = (sc.take i ++ [ys] ++ sc.drop (i + 1)).map En.d := by rw [List.map_append, List.map_append]; rfl
      rw [e]
      refine h _ g2 ?_ (fun s hs => ?_) hs2
      · simp only [List.length_append, tl, dl, List.length_cons, List.length_nil]; omega
      · rcases List.mem_append.mp hs with hs | hs
        · rcases List.mem_append.mp hs with hs | hs
          · exact hg s (List.mem_of_mem_take hs)
          · rw [List.mem_singleton.mp hs]; exact gy
        · exact hg s (List.mem_of_mem_drop hs)
    rw [if_pos rfl]
    cases q : (!inV (D.str w).fv (((slot.map D.str)).map D.fv)) with
    | true => exact fin 1 (.inr rfl)
    | false => exact fin 0 (.inl rfl)
end TL
set_option Elab.async false
set_option linter.all false
set_option maxRecDepth 100000
/-! VS8: a wheel drawn. -/
namespace TL
open PySem PySem.Spec PyProof.Rows L2
theorem seqJ {G : Type} {t u : TTS G} {TD : TEnds G} {ex : TX G} {ρ : Rho} {g : G} (P : Rho → G → Prop) (h1 : ∀ K : Rho → G → Prop, (∀ ρ g, P ρ g → K ρ g) → t { TD with nx := K } ex ρ g) (h2 : ∀ ρ g, P ρ g → u TD ex ρ g) : tSeqT t u TD ex ρ g := h1 _ h2
theorem ifP {G : Type} {c : TTB G} {t u : TTS G} {TD : TEnds G} {ex : TX G} {ρ : Rho} {g : G} (P : Bool → Prop) (hc : ∀ Kb : Bool → G → Prop, (∀ k, P k → Kb k g) → c ρ g ex Kb) (h1 : P true → t TD ex ρ g) (h0 : P false → u TD ex ρ g) : tIfT c t u TD ex ρ g := hc _ fun k hk => by
  cases k with
  | true => exact if1' rfl (h1 hk)
  | false => exact if0' rfl (h0 hk)
theorem rng_drop {n i x : Nat} {r : List Nat} (h : x :: r = (List.range n).drop i) : x = i ∧ i < n ∧ r = (List.range n).drop (i + 1) := by
  obtain ⟨h1, h2⟩ := drop_cons h.symm
  have h3 := List.getElem?_eq_some_iff.mp h1
  obtain ⟨h4, h5⟩ := h3
  simp at h4 h5
  exact ⟨h5.symm, h4, h2⟩
theorem forL_rng {G : Type} {gt : TTG} {tb : TTS G} {TD : TEnds G} {ex : TX G} {lo : Int} {n : Nat} {ρ : Rho} {g : G} (I : Nat → Rho → G → Prop)
    (step : ∀ i ρ g (K : Rho → G → Prop), i < n → (∀ ρ g, I (i + 1) ρ g → K ρ g) → I i ρ g → gt (.int (lo + (i : Nat))) ρ fun ρ' => tb { TD with nx := K, ct := K, bk := TD.nx } ex ρ' g) (he : ∀ ρ g, I n ρ g → TD.nx ρ g) (h0 : I 0 ρ g) : forL gt tb TD ex (rngD lo n) ρ g := by
  unfold rngD
  refine forL_xs (fun i : Nat => D.int (lo + (i : Nat))) (fun rest ρ g => ∃ i, rest = (List.range n).drop i ∧ i ≤ n ∧ I i ρ g) _ _ _ (fun x rest ρ g K hK ⟨i, e, hi, q⟩ => ?_) (fun ρ g ⟨i, e, hi, q⟩ => ?_) ⟨0, rfl, Nat.zero_le _, h0⟩
  · obtain ⟨rfl, h1, h2⟩ := rng_drop e
    exact step x ρ g K h1 (fun ρ g q => hK ρ g ⟨x + 1, h2, h1, q⟩) q
  · have := congrArg List.length e
    simp at this
    obtain rfl : i = n := by omega
    exact he _ _ q
theorem lcL_rng {G : Type} {gt : TTG} {tt : TTB G} {te : TTE G} {ρ : Rho} {Q : List D → G → Prop} {lo : Int} {n : Nat} {g : G} (I : Nat → List D → G → Prop)
    (step : ∀ i acc g (K1 : D → G → Prop) (K0 : G → Prop), i < n → I i acc g → (∀ y g', I (i + 1) (acc ++ [y]) g' → K1 y g') → (∀ g', I (i + 1) acc g' → K0 g') → gt (.int (lo + (i : Nat))) ρ fun ρ' => tt ρ' g noX fun k g1 => if k = true then te ρ' g1 noX K1 else K0 g1)
    (he : ∀ acc g, I n acc g → Q acc g) (h0 : I 0 [] g) : lcL gt tt te ρ Q (rngD lo n) [] g := by
  unfold rngD
  refine lcL_inv (fun i : Nat => D.int (lo + (i : Nat))) (fun rest acc g => ∃ i, rest = (List.range n).drop i ∧ i ≤ n ∧ I i acc g) _ _ _ (fun x rest acc g K1 K0 ⟨i, e, hi, q⟩ h1 h0 => ?_) (fun acc g ⟨i, e, hi, q⟩ => ?_) ⟨0, rfl, Nat.zero_le _, h0⟩
  · obtain ⟨rfl, a1, a2⟩ := rng_drop e
    exact step x acc g K1 K0 a1 q (fun y g' q => h1 y g' ⟨x + 1, a2, a1, q⟩) fun g' q => h0 g' ⟨x + 1, a2, a1, q⟩
  · have := congrArg List.length e
    simp at this
    obtain rfl : i = n := by omega
    exact he _ _ q
theorem one_big : 1 ≤ sizeLine := Nat.le_trans (Nat.le_of_ble_eq_true rfl : 1 ≤ 1000000) sizeLine_big
theorem three_big' : 3 ≤ sizeLine := Nat.le_trans (Nat.le_of_ble_eq_true rfl : 3 ≤ 1000000) sizeLine_big
/-- phases: many rows of n entries -/
structure Phases (n songs : Nat) (st : States) : Prop where
  len : 1 ≤ st.length ∧ st.length ≤ 6
  row : ∀ r ∈ st, r.length = n
  ent : ∀ r ∈ st, ∀ e ∈ r, GoodEnt st.length e ∧ e.t < songs
def SP__law_wheel : TSp := fun b ds g Q E => ∃ (a : Addr) (songs : Nat), ds = [.hnd a, .int songs] ∧ (1 ≤ songs ∧ songs ≤ 4 ∧ StoreOk b g a) ∧ ∀ (ks : List Nat) (st : States) g', GoodLetters ks → Phases ks.length songs st → StoreOk b g' a → Q (.tup [.str (SX.S ks), En.d st]) g'
theorem ok__law_wheel : SpOk 2 SP__law_wheel := ⟨fun b ds g Q E ⟨i, j, e, _⟩ => by rw [e]; rfl, fun b ds g Q Q' E E' w w' ⟨i, j, e, h, q⟩ => ⟨i, j, e, h, fun d st g' h1 h2 h3 => w _ _ (q d st g' h1 h2 h3)⟩⟩
theorem v__law_wheel (b : B) (ds g Q X) (h : SP__law_wheel b ds g Q X) : VC (t__law_wheel (b := b) SP__law_letters SP__law_near SP__law_take) ["store", "songs", "letters", "many", "kind", "rows", "q", "row", "k", "item"] ds g Q X := by
  obtain ⟨a, songs, rfl, ⟨hn1, hn2, hs⟩, h⟩ := h
  have hb := sizeLine_big
  refine ⟨_, rfl, a, rfl, hs, fun ks g1 hks hs1 => ?_⟩
  refine ⟨_, rfl, a, 1, 6, rfl, ⟨by decide, by decide, hs1⟩, fun m g2 hm1 hm2 hs2 => ?_⟩
  obtain ⟨many, rfl⟩ : ∃ n : Nat, m = n := ⟨m.toNat, by omega⟩
  refine ⟨_, rfl, a, 6, rfl, ⟨by decide, hs2⟩, fun kind g3 hs3 _ _ => ?_⟩
  refine ⟨Nat.zero_le _, _, rfl, many, rfl, ⟨by omega, by omega⟩, ?_⟩
  rw [Int.toNat_natCast]
  refine forL_rng (fun i ρ g' => StoreOk b g' a ∧ ∃ (acc : States) (x6 x7 x8 x9 : Option D), ρ = [some (.hnd a), some (.int songs), some (.str (SX.S ks)), some (.int many), some (.int kind), some (.lst (acc.map En.d)), x6, x7, x8, x9] ∧ acc.length = i ∧ ∀ r ∈ acc, r.length = ks.length ∧ ∀ e ∈ r, GoodEnt many e ∧ e.t < songs) (fun i ρ g4 K hi hK ⟨hs4, acc, x6, x7, x8, x9, eρ, hl, hg⟩ => ?_) (fun ρ g4 ⟨hs4, acc, x6, x7, x8, x9, eρ, hl, hg⟩ => ?_) ⟨hs3, [], none, none, none, none, rfl, rfl, fun r hr => by simp at hr⟩
  · subst eρ
    have hkl := hks.hi
    refine ⟨Nat.zero_le _, _, rfl, by rw [SX.S_len]; omega, ks.length, by rw [SX.S_len], ⟨by omega, by omega⟩, ?_⟩
    rw [Int.toNat_natCast]
    refine forL_rng (fun j ρ g' => StoreOk b g' a ∧ ∃ (row : List Ent) (x8 x9 : Option D), ρ = [some (.hnd a), some (.int songs), some (.str (SX.S ks)), some (.int many), some (.int kind), some (.lst (acc.map En.d)), some (.int ((0 : Int) + (i : Nat))), some (.lst (row.map En.d)), x8, x9] ∧ row.length = j ∧ ∀ e ∈ row, GoodEnt many e ∧ e.t < songs) (fun j ρ g5 K2 hj hK2 ⟨hs5, row, x8, x9, eρ, hrl, hrg⟩ => ?_) (fun ρ g5 ⟨hs5, row, x8, x9, eρ, hrl, hrg⟩ => ?_) ⟨hs4, [], x8, x9, rfl, rfl, fun e he => by simp at he⟩
    · subst eρ
      refine ⟨_, rfl, _, rfl, a, many, rfl, ⟨by omega, hs5⟩, fun f g6 hs6 hf0 hf1 => ?_⟩
      refine ⟨_, rfl, _, rfl, a, songs, rfl, ⟨by omega, hs6⟩, fun t g7 hs7 ht0 ht1 => ?_⟩
      refine ⟨_, rfl, a, 3, rfl, ⟨by decide, hs7⟩, fun v g8 hs8 hv0 hv1 => ⟨three_big', ?_⟩⟩
      have he0 : GoodEnt many ⟨f, t, 1 + v⟩ ∧ t < songs := ⟨⟨hf0, by show f < _; omega, .inr ⟨ht0, by show t ≤ 3; omega, by show 1 ≤ 1 + v; omega, by show 1 + v ≤ 3; omega⟩⟩, by omega⟩
      dsimp only
      refine seqJ (fun ρ g' => StoreOk b g' a ∧ ∃ e : Ent, (GoodEnt many e ∧ e.t < songs) ∧ ρ = [some (.hnd a), some (.int songs), some (.str (SX.S ks)), some (.int many), some (.int kind), some (.lst (acc.map En.d)), some (.int ((0 : Int) + (i : Nat))), some (.lst (row.map En.d)), some (.int ((0 : Int) + (j : Nat))), some (En.d e)]) (fun K3 hK3 => ?_) (fun ρ g9 ⟨hs9, e, he, eρ⟩ => ?_)
      · refine ⟨_, rfl, a, 5, rfl, ⟨by decide, hs8⟩, fun r g9 hs9 _ _ => ?_⟩
        dsimp only [tCon]
        refine oEq_en r 0 trivial trivial (by decide) ⟨_, rfl, ifB (fun _ => ?_) fun _ => ?_⟩
        · exact ⟨_, rfl, .int f, rfl, three_big', hK3 _ _ ⟨hs9, ⟨f, -1, 0⟩, ⟨⟨hf0, he0.1.2.1, .inl ⟨rfl, rfl⟩⟩, by show (-1 : Int) < _; omega⟩, rfl⟩⟩
        · exact hK3 _ _ ⟨hs9, ⟨f, t, 1 + v⟩, he0, rfl⟩
      · subst eρ
        refine seqJ (fun ρ g' => StoreOk b g' a ∧ ∃ e : Ent, (GoodEnt many e ∧ e.t < songs) ∧ ρ = [some (.hnd a), some (.int songs), some (.str (SX.S ks)), some (.int many), some (.int kind), some (.lst (acc.map En.d)), some (.int ((0 : Int) + (i : Nat))), some (.lst (row.map En.d)), some (.int ((0 : Int) + (j : Nat))), some (En.d e)]) (fun K3 hK3 => ?_) (fun ρ g10 ⟨hs10, e2, he2, eρ⟩ => ?_)
        · refine ifP (fun _ => True) (fun Kb hk => ?_) (fun _ => ?_) fun _ => hK3 _ _ ⟨hs9, e, he, rfl⟩
          · refine ⟨_, rfl, ?_⟩
            dsimp only [tCon]
            refine oEq_en kind 0 trivial trivial (by decide) ⟨_, rfl, ifB (fun _ => hk _ trivial) fun _ => ⟨_, rfl, ?_⟩⟩
            dsimp only [tCon]
            refine oEq_en kind 2 trivial trivial (by decide) ⟨_, rfl, ifB (fun _ => ⟨_, rfl, _, rfl, _, rfl, hk _ trivial⟩) fun _ => hk _ trivial⟩
          · refine ⟨_, rfl, _, rfl, by omega, one_big, _, rfl, 1, rfl, three_big', hK3 _ _ ⟨hs9, ⟨((0 : Int) + (i : Nat) + 1) % (many : Nat), e.t, e.v⟩, ⟨⟨Int.emod_nonneg _ (by omega), Int.emod_lt_of_pos _ (by omega), he.1.2.2⟩, he.2⟩, rfl⟩⟩
        · subst eρ
          refine seqJ (fun ρ g' => StoreOk b g' a ∧ ∃ e : Ent, (GoodEnt many e ∧ e.t < songs) ∧ ρ = [some (.hnd a), some (.int songs), some (.str (SX.S ks)), some (.int many), some (.int kind), some (.lst (acc.map En.d)), some (.int ((0 : Int) + (i : Nat))), some (.lst (row.map En.d)), some (.int ((0 : Int) + (j : Nat))), some (En.d e)]) (fun K3 hK3 => ?_) (fun ρ g11 ⟨hs11, e3, he3, eρ⟩ => ?_)
          · refine ifP (fun k => k = true → 0 < i) (fun Kb hk => ?_) (fun hq => ?_) fun _ => hK3 _ _ ⟨hs10, e2, he2, rfl⟩
            · refine ⟨_, rfl, _, rfl, ifB (fun hq => ⟨_, rfl, ?_⟩) fun _ => hk _ fun z => by cases z⟩
              dsimp only [tCon]
              have hq : 0 < i := by omega
              refine oEq_en kind 1 trivial trivial (by decide) ⟨_, rfl, ifB (fun _ => hk _ fun _ => hq) fun _ => ⟨_, rfl, ?_⟩⟩
              dsimp only [tCon]
              refine oEq_en kind 2 trivial trivial (by decide) ⟨_, rfl, ifB (fun _ => ⟨_, rfl, _, rfl, _, rfl, hk _ fun _ => hq⟩) fun _ => hk _ fun z => by cases z⟩
            · have hq := hq rfl
              obtain ⟨r0, hr0⟩ : ∃ r0, acc[0]? = some r0 := ⟨acc[0]'(by omega), by simp⟩
              have hg0 := hg r0 (List.mem_of_getElem? hr0)
              have hj0 : j < r0.length := by rw [hg0.1]; exact hj
              have hge := hg0.2 _ (List.getElem_mem hj0)
              refine ⟨_, rfl, .int e2.f, rfl, one_big, _, rfl, En.d r0, atI_of (i := 0) rfl (by rw [List.getElem?_map, hr0]; rfl), _, rfl, En.d r0[j], atI_of (i := j) (by omega) (by rw [List.getElem?_map, List.getElem?_eq_getElem hj0]; rfl), 1, rfl, three_big', hK3 _ _ ⟨hs10, ⟨e2.f, r0[j].t, r0[j].v⟩, ⟨⟨he2.1.1, he2.1.2.1, hge.1.2.2⟩, hge.2⟩, rfl⟩⟩
          · subst eρ
            refine ⟨⟨_, rfl⟩, _, rfl, rfl, _, rfl, by simp; omega, hK2 _ _ ⟨hs11, row ++ [e3], _, _, by rw [List.map_append]; rfl, by simp [hrl], fun e he => ?_⟩⟩
            rcases List.mem_append.mp he with he | he
            · exact hrg e he
            · rw [List.mem_singleton.mp he]; exact he3
    · subst eρ
      refine ⟨⟨_, rfl⟩, _, rfl, _, rfl, by simp; omega, hK _ _ ⟨hs5, acc ++ [row], _, _, x8, x9, by rw [List.map_append]; rfl, by simp [hl], fun r hr => ?_⟩⟩
      rcases List.mem_append.mp hr with hr | hr
      · exact hg r hr
      · rw [List.mem_singleton.mp hr]; exact ⟨hrl, hrg⟩
  · subst eρ
    refine ⟨_, rfl, rfl, _, rfl, two_big, h ks acc g4 hks ⟨by omega, fun r hr => (hg r hr).1, fun r hr e he => ?_⟩ hs4⟩
    rw [hl]
    exact (hg r hr).2 e he
end TL
set_option Elab.async false
set_option linter.all false
set_option maxRecDepth 100000
/-! VS9: chimes drawn. -/
namespace TL
open PySem PySem.Spec PyProof.Rows L2
/-- what the law draws -/
structure Chm (c : Car) : Prop where
  lt : ∃ ks, GoodLetters ks ∧ c.chg.letters = SX.S ks ∧ Phases ks.length c.scores.length c.chg.states
  sc : GoodScores c.scores
theorem letters_ok {ks : List Nat} (h : GoodLetters ks) : En.ok (SX.S ks) := S_ok fun k hk => by
  have : ∀ k ∈ abc, k < 0x110000 := by decide +kernel
  exact this k (h.mem k hk)
theorem Chm.car {c : Car} (h : Chm c) : GoodCar c := by
  obtain ⟨⟨ks, h1, h2, h3⟩, h4⟩ := h
  have e : c.chg.letters.cps.toList = ks := by rw [h2]
  exact ⟨h4, h3.len, by rw [e]; exact ⟨h1.lo, h1.hi⟩, by rw [e]; exact h3.row, h3.ent, by rw [h2]; exact letters_ok h1⟩
theorem Chm.chg {c : Car} (h : Chm c) : GoodChg c.chg := by
  obtain ⟨⟨ks, h1, h2, h3⟩, h4⟩ := h
  have e : c.chg.letters.cps.toList = ks := by rw [h2]
  exact ⟨⟨ks, h1, h2⟩, h3.len, by rw [e]; exact h3.row, fun r hr e he => (h3.ent r hr e he).1⟩
def SP__law_chimes : TSp := fun b ds g Q E => ∃ (a : Addr), ds = [.hnd a] ∧ StoreOk b g a ∧ ∀ (c : Car) g', Chm c → StoreOk b g' a → Q c.tp g'
theorem ok__law_chimes : SpOk 1 SP__law_chimes := ⟨fun b ds g Q E ⟨i, e, _⟩ => by rw [e]; rfl, fun b ds g Q Q' E E' w w' ⟨i, e, h, q⟩ => ⟨i, e, h, fun d g' h1 h2 => w _ _ (q d g' h1 h2)⟩⟩
theorem mem_set {α : Type} {l : List α} {i : Nat} {a x : α} (h : x ∈ l.set i a) : x ∈ l ∨ x = a := List.mem_or_eq_of_mem_set h
theorem v__law_chimes (b : B) (ds g Q X) (h : SP__law_chimes b ds g Q X) : VC (t__law_chimes (b := b) SP__law_near SP__law_pick SP__law_wheel SP__law_tones SP__law_take SP__law_delayed SP__law_bent_tone) ["store", "songs", "span", "letters", "phases", "scores", "k", "delayed_in", "bent"] ds g Q X := by
  obtain ⟨a, rfl, hs, h⟩ := h
  have hb := sizeLine_big
  refine ⟨_, rfl, a, 1, 4, rfl, ⟨by decide, by decide, hs⟩, fun m g1 hm1 hm2 hs1 => ?_⟩
  obtain ⟨songs, rfl⟩ : ∃ n : Nat, m = n := ⟨m.toNat, by omega⟩
  refine ⟨_, rfl, _, rfl, Nat.le_trans (Nat.le_of_ble_eq_true rfl : 4 ≤ 1000000) hb, a, _, rfl, ⟨by decide, by decide, hs1, fun d hd => ?_⟩, fun d g2 hd hs2 => ?_⟩
  · simp at hd; rcases hd with rfl | rfl | rfl <;> rfl
  obtain ⟨hi, rfl, hi1, hi2⟩ : ∃ hi : Int, d = .int hi ∧ 3 ≤ hi ∧ hi ≤ 24 := by
    simp at hd
    rcases hd with rfl | rfl | rfl
    · exact ⟨3, rfl, by decide, by decide⟩
    · exact ⟨6, rfl, by decide, by decide⟩
    · exact ⟨24, rfl, by decide, by decide⟩
  refine ⟨a, 1, hi, rfl, ⟨by omega, by omega, hs2⟩, fun m g3 hp1 hp2 hs3 => ?_⟩
  obtain ⟨span, rfl⟩ : ∃ n : Nat, m = n := ⟨m.toNat, by omega⟩
  refine ⟨_, rfl, _, rfl, a, songs, rfl, ⟨by omega, by omega, hs3⟩, fun ks st g4 hks hst hs4 => ?_⟩
  refine ⟨_, rfl, rfl, _, _, rfl, _, _, rfl, rfl, ?_⟩
  refine ⟨_, rfl, songs, rfl, ⟨by omega, by omega⟩, by simp [rngD]; omega, ?_⟩
  rw [Int.toNat_natCast]
  refine lcL_rng (fun i acc g' => StoreOk b g' a ∧ ∃ scs : List Score, acc = scs.map En.d ∧ scs.length = i ∧ ∀ s ∈ scs, s.length = span ∧ ∀ x ∈ s, GoodSlot x) (fun i acc g5 K1 K0 hi ⟨hs5, scs, e1, e2, e3⟩ h1 h0 => ?_) (fun acc g5 ⟨hs5, scs, e1, e2, e3⟩ => ?_) ⟨hs4, [], rfl, rfl, fun s hs => by simp at hs⟩
  · refine if1 (q := K0 g5) rfl ⟨_, rfl, _, rfl, a, span, rfl, ⟨by omega, by omega, hs5⟩, fun sc g6 hl hg hs6 => h1 _ _ ⟨hs6, scs ++ [sc], by rw [e1, List.map_append]; rfl, by simp [e2], fun s hs => ?_⟩⟩
    rcases List.mem_append.mp hs with hs | hs
    · exact e3 s hs
    · rw [List.mem_singleton.mp hs]; exact ⟨hl, hg⟩
  · subst e1
    refine ⟨_, rfl, 1, songs, rfl, rfl, ⟨⟨by decide, by decide⟩, by omega, by omega⟩, ?_⟩
    refine forL_rng (fun i ρ g' => StoreOk b g' a ∧ ∃ (scs : List Score) (x6 x7 x8 : Option D), ρ = [some (.hnd a), some (.int songs), some (.int span), some (.str (SX.S ks)), some (En.d st), some (.lst (scs.map En.d)), x6, x7, x8] ∧ scs.length = songs ∧ ∀ s ∈ scs, s.length = span ∧ ∀ x ∈ s, GoodSlot x) (fun i ρ g6 K hi hK ⟨hs6, scs, x6, x7, x8, eρ, e2, e3⟩ => ?_) (fun ρ g6 ⟨hs6, scs, x6, x7, x8, eρ, e2, e3⟩ => ?_) ⟨hs5, scs, none, none, none, rfl, e2, e3⟩
    · subst eρ
      have hi1 : i + 1 < scs.length := by omega
      have hat : ∀ (j : Nat) (hj : j < scs.length) (z : Int), z = j → atI (scs.map (En.d (α := Score))) z = some (En.d scs[j]) := fun j hj z hz => atI_of (i := j) hz (by rw [List.getElem?_map, List.getElem?_eq_getElem hj]; rfl)
      have g0 := e3 _ (List.getElem_mem (show 0 < scs.length by omega))
      have gi := e3 _ (List.getElem_mem (show i < scs.length by omega))
      have gj := e3 _ (List.getElem_mem hi1)
      refine ⟨_, rfl, _, hat 0 (by omega) _ rfl, _, rfl, _, rfl, a, span, rfl, ⟨by omega, hs6⟩, fun r g7 hs7 _ _ => ?_⟩
      refine ⟨scs[0]'(by omega), r, rfl, ⟨by omega, by omega⟩, fun dl hdl1 hdl2 => ?_⟩
      refine ⟨_, rfl, _, rfl, _, rfl, _, hat i (by omega) _ (by omega), a, scs[i]'(by omega), rfl, ⟨by omega, by omega, gi.2, hs7⟩, fun bt g8 hbt1 hbt2 hs8 => ?_⟩
      refine ⟨_, rfl, _, rfl, _, rfl, _, hat (i + 1) hi1 _ (by omega), _, rfl, _, rfl, _, hat (i + 1) hi1 _ (by omega), _, rfl, _, rfl, _, hat i (by omega) _ (by omega), _, rfl, rfl, _, rfl, rfl, Nat.le_trans (Nat.le_of_ble_eq_true rfl : 5 ≤ 1000000) hb, a, _, rfl, ⟨Nat.le_of_ble_eq_true rfl, Nat.le_of_ble_eq_true rfl, hs8, fun d hd => ?_⟩, fun d g9 hd hs9 => ?_⟩
      · simp at hd
        rcases hd with rfl | rfl | rfl | rfl <;> rfl
      · obtain ⟨s, rfl, hs1, hs2⟩ : ∃ s : Score, d = En.d s ∧ s.length = span ∧ ∀ x ∈ s, GoodSlot x := by
          simp at hd
          rcases hd with rfl | rfl | rfl | rfl
          · exact ⟨_, rfl, gj⟩
          · exact ⟨_, rfl, gi⟩
          · exact ⟨_, rfl, by rw [hdl1]; exact g0.1, fun x hx => g0.2 x (hdl2 x hx)⟩
          · exact ⟨_, rfl, by rw [hbt1]; exact gi.1, hbt2⟩
        refine ⟨⟨_, rfl⟩, _, rfl, _, _, i + 1, rfl, rfl, by rw [List.length_map]; rw [ixN_lt (by omega) (by omega)]; congr 1; omega, hK _ _ ⟨hs9, scs.set (i + 1) s, _, _, _, by rw [List.map_set]; rfl, by simp [e2], fun s' hs' => ?_⟩⟩
        rcases mem_set hs' with hs' | rfl
        · exact e3 s' hs'
        · exact ⟨hs1, hs2⟩
    · subst eρ
      refine ⟨_, rfl, rfl, _, rfl, rfl, _, rfl, three_big', ?_⟩
      refine h ⟨⟨SX.S ks, st⟩, scs⟩ g6 ⟨⟨ks, hks, rfl, by rw [e2]; exact hst⟩, ⟨by show 1 ≤ scs.length; omega, by show scs.length ≤ 4; omega, fun s hs => ⟨by have := (e3 s hs).1; omega, by have := (e3 s hs).1; omega, (e3 s hs).2⟩, span, fun s hs => (e3 s hs).1⟩⟩ hs6
end TL
set_option Elab.async false
set_option linter.all false
set_option maxRecDepth 100000
/-! VS10: phases twinned. -/
namespace TL
open PySem PySem.Spec PyProof.Rows L2
theorem GoodEnt.up {m n : Nat} {e : Ent} (h : m ≤ n) (q : GoodEnt m e) : GoodEnt n e := ⟨q.1, by have := q.2.1; omega, q.2.2⟩
theorem GoodEnt.fol {n : Nat} {e : Ent} (q : GoodEnt n e) {f : Int} (h0 : 0 ≤ f) (h1 : f < n) : GoodEnt n ⟨f, e.t, e.v⟩ := ⟨h0, h1, q.2.2⟩
theorem cut1 (x y z : D) : cutD [x, y, z] (some 1) none = [y, z] := rfl
def SP__law_twinned : TSp := fun b ds g Q E => ∃ (a : Addr) (n songs : Nat) (st : States), ds = [.hnd a, En.d st] ∧ (Phases n songs st ∧ n ≤ 3 ∧ StoreOk b g a) ∧ ∀ (st' : States) g', Phases n songs st' → StoreOk b g' a → Q (En.d st') g'
theorem ok__law_twinned : SpOk 2 SP__law_twinned := ⟨fun b ds g Q E ⟨i, j, k, l, e, _⟩ => by rw [e]; rfl, fun b ds g Q Q' E E' w w' ⟨i, j, k, l, e, h, q⟩ => ⟨i, j, k, l, e, h, fun d g' h1 h2 => w _ _ (q d g' h1 h2)⟩⟩
/-- the order told: the first, then the others moved on -/
def ordL (m : Nat) (s : Int) : List Int := 0 :: (List.range (m - 1)).map fun k => 1 + ((k : Nat) + s) % ((m : Int) - 1)
theorem ordL_len {m : Nat} (h : 1 ≤ m) (s : Int) : (ordL m s).length = m := by simp [ordL]; omega
theorem ordL_mem {m : Nat} (h : 1 ≤ m) (s : Int) : ∀ x ∈ ordL m s, 0 ≤ x ∧ x < m := fun x hx => by
  rcases List.mem_cons.mp hx with rfl | hx
  · omega
  · obtain ⟨k, hk, rfl⟩ := List.mem_map.mp hx
    have hk : k < m - 1 := by simpa using hk
    have h0 := Int.emod_nonneg ((k : Int) + s) (show (m : Int) - 1 ≠ 0 by omega)
    have h1 := Int.emod_lt_of_pos ((k : Int) + s) (show (0 : Int) < (m : Int) - 1 by omega)
    omega
theorem ordL_onto {m : Nat} (s : Int) {i : Nat} (h : i < m) : ∃ q, q < m ∧ (ordL m s)[q]? = some (i : Int) := by
  cases i with
  | zero => exact ⟨0, h, rfl⟩
  | succ i =>
    have hm : (0 : Int) < (m : Int) - 1 := by omega
    have h0 := Int.emod_nonneg ((i : Int) - s) (show (m : Int) - 1 ≠ 0 by omega)
    have h1 := Int.emod_lt_of_pos ((i : Int) - s) hm
    refine ⟨(((i : Int) - s) % ((m : Int) - 1)).toNat + 1, by omega, ?_⟩
    have hlt : (((i : Int) - s) % ((m : Int) - 1)).toNat < m - 1 := by omega
    show ((List.range (m - 1)).map fun k => 1 + ((k : Nat) + s) % ((m : Int) - 1))[(((i : Int) - s) % ((m : Int) - 1)).toNat]? = _
    rw [List.getElem?_map, List.getElem?_range hlt, Option.map_some]
    have e : ((((((i : Int) - s) % ((m : Int) - 1)).toNat : Nat) : Int) + s) % ((m : Int) - 1) = i := by
      rw [show (((((i : Int) - s) % ((m : Int) - 1)).toNat : Nat) : Int) = ((i : Int) - s) % ((m : Int) - 1) by omega, Int.emod_add_emod, Int.sub_add_cancel]
      exact Int.emod_eq_of_lt (by omega) (by omega)
    rw [e]
    congr 1
    omega
def RowG (n m songs : Nat) (r : List Ent) : Prop := r.length = n ∧ ∀ e ∈ r, GoodEnt m e ∧ e.t < songs
theorem v__law_twinned (b : B) (ds g Q X) (h : SP__law_twinned b ds g Q X) : VC (t__law_twinned (b := b) SP__law_take) ["store", "phases", "rows", "first", "q", "heads", "item", "k", "shift", "order", "found", "row"] ds g Q X := by
  obtain ⟨a, n, songs, st, rfl, ⟨hp, hn3, hs⟩, h⟩ := h
  have hb := sizeLine_big
  have hlen := hp.len
  refine ⟨_, rfl, ?_⟩
  dsimp only [tNilT, En.d_list, oList]
  refine seqJ (fun ρ g' => StoreOk b g' a ∧ ∃ (rs : States) (x3 x4 x5 x6 x7 : Option D), (1 ≤ rs.length ∧ rs.length ≤ 6 ∧ ∀ r ∈ rs, RowG n rs.length songs r) ∧ ρ = [some (.hnd a), some (En.d st), some (.lst (rs.map En.d)), x3, x4, x5, x6, x7, none, none, none, none]) (fun K hK => ?_) (fun ρ g1 ⟨hs1, rs, x3, x4, x5, x6, x7, hrs, eρ⟩ => ?_)
  · have stay : ∀ g', StoreOk b g' a → K ((startR ["store", "phases", "rows", "first", "q", "heads", "item", "k", "shift", "order", "found", "row"] [.hnd a, En.d st]).set 2 (some (.lst (st.map En.d)))) g' := fun g' hs' => hK _ _ ⟨hs', st, none, none, none, none, none, ⟨hlen.1, hlen.2, fun r hr => ⟨hp.row r hr, hp.ent r hr⟩⟩, rfl⟩
    refine ⟨_, rfl, _, rfl, ifB (fun h6 => ⟨_, rfl, a, 3, rfl, ⟨by decide, hs⟩, fun r g1 hs1 _ _ => ⟨_, rfl, ifB (fun _ => ?_) fun _ => stay g1 hs1⟩⟩) fun _ => stay g hs⟩
    have h6 : st.length < 6 := by simp at h6; omega
    refine ⟨_, rfl, _, rfl, a, ((st.map (En.d (α := List Ent))).length : Nat), rfl, ⟨by simp; omega, hs1⟩, fun fi g2 hs2 hf0 hf1 => ?_⟩
    have hfi : fi.toNat < st.length := by rw [List.length_map] at hf1; omega
    refine ⟨⟨_, rfl⟩, _, rfl, _, rfl, En.d st[fi.toNat], atI_of (i := fi.toNat) (by omega) (by rw [List.getElem?_map, List.getElem?_eq_getElem hfi]; rfl), _, rfl, by simp; omega, ?_⟩
    generalize hr0 : st[fi.toNat] = r0
    have hr0m : r0 ∈ st := hr0 ▸ List.getElem_mem hfi
    refine ⟨_, rfl, ((st ++ [r0]).length : Nat), by simp, ⟨by omega, by simp; omega⟩, ?_⟩
    rw [Int.toNat_natCast]
    have hsl : (st ++ [r0]).length = st.length + 1 := by simp
    refine forL_rng (fun i ρ g' => StoreOk b g' a ∧ ∃ (rs : States) (x4 x5 x6 x7 : Option D), ρ = [some (.hnd a), some (En.d st), some (.lst (rs.map En.d)), some (.int fi), x4, x5, x6, x7, none, none, none, none] ∧ rs.length = st.length + 1 ∧ ∀ r ∈ rs, RowG n (st.length + 1) songs r) (fun i ρ g3 K2 hi hK2 ⟨hs3, rs, x4, x5, x6, x7, eρ, hrl, hrg⟩ => ?_) (fun ρ g3 ⟨hs3, rs, x4, x5, x6, x7, eρ, hrl, hrg⟩ => ?_) ⟨hs2, st ++ [r0], none, none, none, none, by rw [List.map_append]; rfl, hsl, fun r hr => ?_⟩
    · subst eρ
      rw [hsl] at hi
      have hil : i < rs.length := by omega
      have hat : atI (rs.map (En.d (α := List Ent))) ((0 : Int) + (i : Nat)) = some (En.d rs[i]) := atI_of (i := i) (by omega) (by rw [List.getElem?_map, List.getElem?_eq_getElem hil]; rfl)
      have gi := hrg _ (List.getElem_mem hil)
      generalize hri : rs[i] = r at hat gi
      refine ⟨_, rfl, _, rfl, En.d r, hat, by show (r.map (En.d (α := Ent))).length ≤ _; rw [List.length_map, gi.1]; omega, ?_⟩
      refine lcL_inv En.d (fun (rest : List Ent) acc g' => StoreOk b g' a ∧ (∀ e ∈ rest, e ∈ r) ∧ ∃ hs : List Int, acc = hs.map D.int ∧ hs.length + rest.length = n ∧ ∀ f ∈ hs, 0 ≤ f ∧ f < (st.length : Int) + 1) _ _ _ (fun e rest acc g4 K1 K0 ⟨hs4, hre, hds, e1, e2, e3⟩ h1 h0 => ?_) (fun acc g4 ⟨hs4, _, hds, e1, e2, e3⟩ => ?_) ⟨hs3, fun e he => he, [], rfl, by simp [gi.1], fun f hf => by simp at hf⟩
      · refine if1 (q := K0 g4) rfl ⟨_, rfl, .int e.f, rfl, _, rfl, two_big, _, rfl, .int e.f, rfl, _, rfl, ?_⟩
        have ge := gi.2 e (hre e (List.mem_cons_self ..))
        show oEq (D.int e.f) (D.int fi) _
        refine oEq_en e.f fi trivial trivial (by decide) ⟨_, rfl, a, 2, rfl, ⟨by decide, hs4⟩, fun tk g5 hs5 ht0 ht1 => ⟨cmulR ⟨by omega, by omega⟩, ?_⟩⟩
        have hz : (if decide (e.f = fi) = true then (1 : Int) else 0) * tk = 0 ∨ (if decide (e.f = fi) = true then (1 : Int) else 0) * tk = 1 := by
          have : tk = 0 ∨ tk = 1 := by omega
          rcases this with rfl | rfl
          · exact .inl (Int.mul_zero _)
          · split <;> simp
        have nxt : ∀ f : Int, 0 ≤ f → f < (st.length : Int) + 1 → K1 (.int f) g5 := fun f f0 f1 => h1 _ _ ⟨hs5, fun e he => hre e (List.mem_cons_of_mem _ he), hds ++ [f], by rw [e1, List.map_append]; rfl, by simp at e2 ⊢; omega, fun x hx => by
          rcases List.mem_append.mp hx with hx | hx
          · exact e3 x hx
          · rw [List.mem_singleton.mp hx]; exact ⟨f0, f1⟩⟩
        rcases hz with hz | hz
        · rw [hz]
          exact ⟨.int e.f, rfl, nxt _ ge.1.1 (by have := ge.1.2.1; omega)⟩
        · rw [hz]
          refine ⟨_, rfl, nxt _ ?_ ?_⟩
          · rw [List.length_map]; omega
          · rw [List.length_map]; omega
      · subst e1
        rw [List.length_nil, Nat.add_zero] at e2
        refine ⟨_, rfl, hds.length, by simp, ⟨by omega, by omega⟩, by simp [rngD]; omega, ?_⟩
        rw [Int.toNat_natCast]
        refine lcL_rng (fun k acc g' => g' = g4 ∧ ∃ r' : List Ent, acc = r'.map En.d ∧ r'.length = k ∧ ∀ e ∈ r', GoodEnt (st.length + 1) e ∧ e.t < songs) (fun k acc g5 K1 K0 hk ⟨eg, r', q1, q2, q3⟩ h1 h0 => ?_) (fun acc g5 ⟨eg, r', q1, q2, q3⟩ => ?_) ⟨rfl, [], rfl, rfl, fun e he => by simp at he⟩
        · subst eg
          have hkr : k < r.length := by rw [gi.1]; omega
          have ge := gi.2 _ (List.getElem_mem hkr)
          have gh := e3 _ (List.getElem_mem hk)
          refine if1 (q := K0 g5) rfl ⟨_, rfl, _, rfl, .int hds[k], atI_of (i := k) (by omega) (by rw [List.getElem?_map, List.getElem?_eq_getElem hk]; rfl), one_big, _, rfl, _, rfl, En.d r, hat, _, rfl, En.d r[k], atI_of (i := k) (by omega) (by rw [List.getElem?_map, List.getElem?_eq_getElem hkr]; rfl), 1, rfl, three_big', h1 _ _ ⟨rfl, r' ++ [⟨hds[k], r[k].t, r[k].v⟩], by rw [q1, List.map_append]; rfl, by simp [q2], fun e he => ?_⟩⟩
          rcases List.mem_append.mp he with he | he
          · exact q3 e he
          · rw [List.mem_singleton.mp he]; exact ⟨ge.1.fol gh.1 gh.2, ge.2⟩
        · subst eg q1
          refine ⟨⟨_, rfl⟩, _, rfl, _, _, i, rfl, rfl, by rw [List.length_map, ixN_lt (by omega) (by omega)]; congr 1; omega, hK2 _ _ ⟨hs4, rs.set i r', _, _, x6, x7, by rw [List.map_set]; rfl, by simp [hrl], fun s' hs' => ?_⟩⟩
          rcases mem_set hs' with hs' | rfl
          · exact hrg s' hs'
          · exact ⟨by omega, q3⟩
    · subst eρ
      exact hK _ _ ⟨hs3, rs, _, x4, x5, x6, x7, ⟨by omega, by omega, by rw [hrl]; exact hrg⟩, rfl⟩
    · rcases List.mem_append.mp hr with hr | hr
      · exact ⟨hp.row r hr, fun e he => ⟨(hp.ent r hr e he).1.up (by omega), (hp.ent r hr e he).2⟩⟩
      · rw [List.mem_singleton.mp hr]
        exact ⟨hp.row r0 hr0m, fun e he => ⟨(hp.ent r0 hr0m e he).1.up (by omega), (hp.ent r0 hr0m e he).2⟩⟩
  · subst eρ
    obtain ⟨m1, m2, hrg⟩ := hrs
    refine ⟨_, rfl, _, rfl, a, ((rs.map (En.d (α := List Ent))).length : Nat), rfl, ⟨by simp; omega, hs1⟩, fun sh g2 hs2 _ _ => ?_⟩
    have hml : (rs.map (En.d (α := List Ent))).length = rs.length := List.length_map ..
    refine ⟨one_big, _, rfl, (rs.length : Int) - 1, by rw [hml], ⟨by omega, by omega⟩, by simp [rngD]; omega, ?_⟩
    rw [show ((rs.length : Int) - 1).toNat = rs.length - 1 by omega]
    unfold rngD
    refine lcL_map (fun i : Nat => D.int ((0 : Int) + (i : Nat))) (fun k : Nat => D.int (1 + ((k : Nat) + sh) % ((rs.length : Int) - 1))) _ _ (fun k hk K1 q => ?_) ?_
    · have hk : k < rs.length - 1 := by simpa using hk
      refine ⟨_, rfl, _, rfl, _, rfl, ?_⟩
      dsimp only [tNilT, oLen, tCon, oSub, oMod, oAdd]
      rw [hml]
      refine ⟨by omega, ?_⟩
      rw [Int.zero_add]
      exact q
    · rw [List.nil_append]
      have eo : [D.int 0] ++ (List.range (rs.length - 1)).map (fun k : Nat => D.int (1 + ((k : Nat) + sh) % ((rs.length : Int) - 1))) = (ordL rs.length sh).map D.int := by
        unfold ordL
        rw [List.map_cons, List.map_map]; rfl
      have ol := ordL_len m1 sh
      have om := ordL_mem m1 sh
      have oo := fun (i : Nat) => ordL_onto (m := rs.length) sh (i := i)
      refine ⟨by simp; omega, ?_⟩
      rw [eo]
      generalize ordL rs.length sh = os at ol om oo
      refine ⟨_, rfl, by rw [hml]; omega, ?_⟩
      refine lcL_map En.d (fun _ => En.d ([] : List Ent)) rs [] (fun r hr K1 q => ⟨Nat.zero_le _, q⟩) ?_
      rw [List.nil_append]
      refine ⟨_, rfl, rs.length, by rw [hml], ⟨by omega, by omega⟩, ?_⟩
      rw [Int.toNat_natCast]
      refine forL_rng (fun j ρ g' => g' = g2 ∧ ∃ (fs : States) (x4 x6 x11 : Option D), ρ = [some (.hnd a), some (En.d st), some (.lst (rs.map En.d)), x3, x4, x5, x6, x7, some (.int sh), some (.lst (os.map D.int)), some (.lst (fs.map En.d)), x11] ∧ fs.length = rs.length ∧ ∀ q < j, ∃ (i : Nat) (r : List Ent), os[q]? = some (i : Int) ∧ fs[i]? = some r ∧ RowG n rs.length songs r) (fun j ρ g3 K hj hK ⟨eg, fs, x4, x6, x11, eρ, hfl, hfq⟩ => ?_) (fun ρ g3 ⟨eg, fs, x4, x6, x11, eρ, hfl, hfq⟩ => ?_) ⟨rfl, rs.map fun _ => [], x4, x6, _, by rw [List.map_map]; rfl, by simp, fun q hq => by omega⟩
      · subst eg eρ
        have gj := hrg _ (List.getElem_mem hj)
        have hat : atI (rs.map (En.d (α := List Ent))) ((0 : Int) + (j : Nat)) = some (En.d rs[j]) := atI_of (i := j) (by omega) (by rw [List.getElem?_map, List.getElem?_eq_getElem hj]; rfl)
        generalize hrj : rs[j] = r at hat gj
        have hjo : j < os.length := by omega
        have gO := om _ (List.getElem_mem hjo)
        refine ⟨_, rfl, _, rfl, En.d r, hat, by show (r.map (En.d (α := Ent))).length ≤ _; rw [List.length_map, gj.1]; omega, ?_⟩
        refine lcL_map En.d (fun e : Ent => En.d (⟨os.getD e.f.toNat 0, e.t, e.v⟩ : Ent)) r [] (fun e he K1 q => ?_) ?_
        · have ge := gj.2 e he
          have hfo : e.f.toNat < os.length := by have := ge.1.2.1; have := ge.1.1; omega
          refine ⟨_, rfl, _, rfl, .int e.f, rfl, .int (os.getD e.f.toNat 0), atI_of (i := e.f.toNat) (by have := ge.1.1; omega) (by rw [List.getElem?_map, List.getD_eq_getElem?_getD, List.getElem?_eq_getElem hfo]; rfl), one_big, _, rfl, 1, rfl, three_big', q⟩
        · rw [List.nil_append]
          refine ⟨⟨_, rfl⟩, _, rfl, _, rfl, .int os[j], atI_of (i := j) (by omega) (by rw [List.getElem?_map, List.getElem?_eq_getElem hjo]; rfl), os[j], _, os[j].toNat, rfl, rfl, by rw [List.length_map]; exact ixN_lt gO.1 (by omega), hK _ _ ⟨rfl, fs.set os[j].toNat (r.map fun e => ⟨os.getD e.f.toNat 0, e.t, e.v⟩), _, x6, x11, by rw [List.map_set]; simp only [En.d_list, List.map_map]; rfl, by simp [hfl], fun q hq => ?_⟩⟩
          have good : RowG n rs.length songs (r.map fun e => (⟨os.getD e.f.toNat 0, e.t, e.v⟩ : Ent)) := by
            refine ⟨by rw [List.length_map]; exact gj.1, fun e he => ?_⟩
            obtain ⟨e, hem, rfl⟩ := List.mem_map.mp he
            have ge := gj.2 e hem
            have hfo : e.f.toNat < os.length := by have := ge.1.2.1; have := ge.1.1; omega
            have hm := om _ (List.getElem_mem hfo)
            have e5 : os.getD e.f.toNat 0 = os[e.f.toNat] := by rw [List.getD_eq_getElem?_getD, List.getElem?_eq_getElem hfo]; rfl
            refine ⟨?_, ge.2⟩
            rw [e5]
            exact ge.1.fol hm.1 hm.2
          by_cases hqj : q = j
          · subst hqj
            exact ⟨os[q].toNat, _, by rw [List.getElem?_eq_getElem hjo]; congr 1; omega, by rw [List.getElem?_set_self (by omega)], good⟩
          · obtain ⟨i, r2, q1, q2, q3⟩ := hfq q (by omega)
            by_cases hi : i = os[j].toNat
            · subst hi
              exact ⟨os[j].toNat, _, q1, by rw [List.getElem?_set_self (by omega)], good⟩
            · exact ⟨i, r2, q1, by rw [List.getElem?_set_ne (Ne.symm hi)]; exact q2, q3⟩
      · subst eg eρ
        refine ⟨_, rfl, h fs g3 ?_ hs2⟩
        have all : ∀ r ∈ fs, RowG n rs.length songs r := fun r hr => by
          obtain ⟨i, hi⟩ := List.getElem?_of_mem hr
          have hil : i < rs.length := by have := (List.getElem?_eq_some_iff.mp hi).1; omega
          obtain ⟨q, hq1, hq2⟩ := oo i hil
          obtain ⟨i2, r2, q1, q2, q3⟩ := hfq q hq1
          rw [hq2] at q1
          have : i = i2 := by injection q1 with q1; omega
          subst this
          rw [hi] at q2
          cases q2
          exact q3
        exact ⟨by omega, fun r hr => (all r hr).1, fun r hr => by rw [hfl]; exact (all r hr).2⟩
end TL
set_option Elab.async false
set_option linter.all false
set_option maxRecDepth 100000
/-! VS11: the other carillon. -/
namespace TL
open PySem PySem.Spec PyProof.Rows L2
theorem three_rows {r : List Ent} {m songs n : Nat} (h1 : 1 ≤ r.length) (h2 : ∀ e ∈ r, GoodEnt m e ∧ e.t < songs) (hn : n ≤ 3) : RowG n m songs ((List.replicate 3 r).flatten.take n) := by
  refine ⟨?_, fun e he => ?_⟩
  · rw [List.length_take, List.length_flatten, List.map_replicate, List.sum_replicate_nat]
    omega
  · obtain ⟨l, hl1, hl2⟩ := List.mem_flatten.mp (List.mem_of_mem_take he)
    rw [(List.mem_replicate.mp hl1).2] at hl2
    exact h2 e hl2
theorem phases_of {n songs : Nat} {st : States} (h1 : 1 ≤ st.length ∧ st.length ≤ 6) (h2 : ∀ r ∈ st, RowG n st.length songs r) : Phases n songs st := ⟨h1, fun r hr => (h2 r hr).1, fun r hr => (h2 r hr).2⟩
theorem phases_row {n songs : Nat} {st : States} (h : Phases n songs st) : ∀ r ∈ st, RowG n st.length songs r := fun r hr => ⟨h.row r hr, h.ent r hr⟩
/-- (row * 3)[:n] -/
theorem mul3 {G : Type} {r : List Ent} {n : Nat} {Q : D → G → Prop} {g : G} (h1 : 1 ≤ r.length) (h2 : r.length ≤ 1000) (q : Q (En.d ((List.replicate 3 r).flatten.take n)) g) : oMulT (En.d r) (.int 3) fun d => oSl d none (some (n : Int)) fun d => Q d g := by
  refine ⟨⟨fun z => ?_, by decide, by decide, by rw [List.length_map]; exact h2⟩, ?_⟩
  · have := congrArg List.length z; rw [List.length_map, List.length_nil] at this; omega
  · dsimp only [oSl]
    rw [cutD_take, show (3 : Int).toNat = 3 from rfl, rep_en, take_en]
    exact q
def SP__law_other : TSp := fun b ds g Q E => ∃ (a : Addr) (ks : List Nat) (st : States) (scs : List Score), ds = [.hnd a, .str (SX.S ks), En.d st, En.d scs] ∧ (GoodLetters ks ∧ Phases ks.length scs.length st ∧ GoodScores scs ∧ StoreOk b g a) ∧ ∀ (st' : States) (scs' : List Score) g', Phases ks.length scs'.length st' → GoodScores scs' → StoreOk b g' a → Q (.tup [.str (SX.S ks), En.d st', En.d scs']) g'
theorem ok__law_other : SpOk 4 SP__law_other := ⟨fun b ds g Q E ⟨i, j, k, l, e, _⟩ => by rw [e]; rfl, fun b ds g Q Q' E E' w w' ⟨i, j, k, l, e, h, q⟩ => ⟨i, j, k, l, e, h, fun d d2 g' h1 h2 h3 => w _ _ (q d d2 g' h1 h2 h3)⟩⟩
theorem v__law_other (b : B) (ds g Q X) (h : SP__law_other b ds g Q X) : VC (t__law_other (b := b) SP__law_take SP__law_twinned SP__law_wheel SP__law_tones SP__law_bent_tone) ["store", "letters", "phases", "scores", "kind", "rows", "told", "top", "row", "score", "x", "at", "q", "k", "item"] ds g Q X := by
  obtain ⟨a, ks, st, scs, rfl, ⟨hks, hst, hsc, hs⟩, h⟩ := h
  have hb := sizeLine_big
  have hk1 := hks.lo
  have hk3 := hks.hi
  obtain ⟨c1, c2, c3, span, c4⟩ := hsc
  have hS : (SX.S ks).length = ks.length := SX.S_len ks
  have hml : (scs.map (En.d (α := Score))).length = scs.length := List.length_map ..
  refine ⟨_, rfl, a, 6, rfl, ⟨by decide, hs⟩, fun kind g1 hs1 _ _ => ?_⟩
  refine ⟨_, rfl, _, rfl, a, ks.length, scs.length, st, rfl, ⟨hst, hk3, hs1⟩, fun st1 g2 hst1 hs2 => ?_⟩
  refine ⟨_, rfl, _, rfl, ?_⟩
  dsimp only [tNilT, tCon, oSub, oLen, En.d_list]
  have hspan : 1 ≤ span ∧ span ≤ 24 := by
    have hm := List.getElem_mem (show 0 < scs.length by omega)
    have h1 := c4 _ hm
    have h2 := c3 _ hm
    have := h2.1; have := h2.2.1; omega
  let P : Rho → b.G → Prop := fun ρ g' => StoreOk b g' a ∧ ∃ (rs : States) (ts : List Score) (x8 x9 x10 x11 x12 x13 x14 : Option D), (Phases ks.length ts.length rs ∧ ts.length = scs.length ∧ ∀ s ∈ ts, s.length = span ∧ ∀ x ∈ s, GoodSlot x) ∧ ρ = [some (.hnd a), some (.str (SX.S ks)), some (En.d st), some (En.d scs), some (.int kind), some (En.d rs), some (.lst (ts.map En.d)), some (.int (((scs.map (En.d (α := Score))).length : Nat) - 1)), x8, x9, x10, x11, x12, x13, x14]
  have hsc1 : ∀ s ∈ scs, s.length = span ∧ ∀ x ∈ s, GoodSlot x := fun s hs => ⟨c4 s hs, (c3 s hs).2.2⟩
  refine seqJ P (fun K hK => ?_) (fun ρ g3 ⟨hs3, rs, ts, x8, x9, x10, x11, x12, x13, x14, ⟨hrs, htl, hts⟩, eρ⟩ => ?_)
  · -- kind == 0
    refine ⟨_, rfl, ?_⟩
    dsimp only [tCon]
    refine oEq_en kind 0 trivial trivial (by decide) ⟨_, rfl, ifB (fun _ => ?_) fun _ => hK _ _ ⟨hs2, st1, scs, none, none, none, none, none, none, none, ⟨hst1, rfl, hsc1⟩, rfl⟩⟩
    refine ⟨_, rfl, _, rfl, a, scs.length, by rw [hml]; rfl, ⟨c1, c2, hs2⟩, fun ks' st2 g3 hks' hst2 hs3 => ?_⟩
    have hk1' := hks'.lo
    have hl2 := hst2.len
    refine ⟨En.d st2, rfl, _, rfl, by show (st2.map (En.d (α := List Ent))).length ≤ _; rw [List.length_map]; omega, ?_⟩
    refine lcL_map En.d (fun r : List Ent => En.d ((List.replicate 3 r).flatten.take ks.length)) st2 [] (fun r hr K1 q => ?_) ?_
    · have hrl := hst2.row r hr
      refine ⟨_, rfl, ?_⟩
      dsimp only [tCon, tNoT, tAtT, tVarT, tCallO, tConsT, tNilT]
      refine (mul3 (Q := fun d _ => K1 d g3) (g := g3) (n := ks.length) (by omega) (by have := hks'.hi; omega) q).imp id fun q => ⟨_, rfl, by rw [hS]; omega, ks.length, by rw [hS], q⟩
    · rw [List.nil_append]
      refine ⟨_, rfl, by rw [hml]; omega, ?_⟩
      refine lcL_inv En.d (fun (rest : List Score) acc g' => StoreOk b g' a ∧ ∃ ts : List Score, acc = ts.map En.d ∧ ts.length + rest.length = scs.length ∧ ∀ s ∈ ts, s.length = span ∧ ∀ x ∈ s, GoodSlot x) _ _ _ (fun s rest acc g4 K1 K0 ⟨hs4, ts, e1, e2, e3⟩ h1 h0 => ?_) (fun acc g4 ⟨hs4, ts, e1, e2, e3⟩ => ?_) ⟨hs3, [], rfl, by simp, fun s hs => by simp at hs⟩
      · have h00 : 0 < scs.length := by omega
        have hs00 := c4 _ (List.getElem_mem h00)
        refine if1 (q := K0 g4) rfl ⟨_, rfl, _, rfl, En.d scs[0], atI_of (i := 0) rfl (by rw [List.getElem?_map, List.getElem?_eq_getElem h00]; rfl), ?_⟩
        refine ⟨a, span, ?_, ⟨hspan.1, hspan.2, hs4⟩, fun sc g5 hl hg hs5 => h1 _ _ ⟨hs5, ts ++ [sc], by rw [e1, List.map_append]; rfl, by simp at e2 ⊢; omega, fun s hs => ?_⟩⟩
        · show [D.hnd a, D.int (((scs[0].map (En.d (α := List Str))).length : Nat) : Int)] ++ [] = _
          rw [List.length_map, hs00]; rfl
        · rcases List.mem_append.mp hs with hs | hs
          · exact e3 s hs
          · rw [List.mem_singleton.mp hs]; exact ⟨hl, hg⟩
      · subst e1
        rw [List.length_nil, Nat.add_zero] at e2
        refine hK _ _ ⟨hs4, st2.map fun r => (List.replicate 3 r).flatten.take ks.length, ts, _, _, _, _, _, _, _, ⟨?_, e2, e3⟩, by simp only [En.d_list, List.map_map]; rfl⟩
        refine phases_of (by rw [List.length_map]; exact hl2) fun r hr => ?_
        obtain ⟨r, hrm, rfl⟩ := List.mem_map.mp hr
        rw [List.length_map, e2]
        exact three_rows (by have := hst2.row r hrm; omega) (hst2.ent r hrm) hk3
  · subst eρ
    refine seqJ P (fun K hK => ?_) (fun ρ g4 ⟨hs4, rs, ts, x8, x9, x10, x11, x12, x13, x14, ⟨hrs, htl, hts⟩, eρ⟩ => ?_)
    · -- kind == 1
      refine ⟨_, rfl, ?_⟩
      dsimp only [tCon]
      refine oEq_en kind 1 trivial trivial (by decide) ⟨_, rfl, ifB (fun _ => ?_) fun _ => hK _ _ ⟨hs3, rs, ts, x8, x9, x10, x11, x12, x13, x14, ⟨hrs, htl, hts⟩, rfl⟩⟩
      have hl := hrs.len
      refine ⟨_, rfl, _, rfl, _, rfl, by show (rs.map (En.d (α := List Ent))).length ≤ _; rw [List.length_map]; omega, ?_⟩
      refine lcL_map En.d (fun r : List Ent => En.d (r.map fun e : Ent => (⟨e.f, if e.t < 0 then -1 else (scs.length : Int) - 1 - e.t, e.v⟩ : Ent))) rs [] (fun r hr K1 q => ?_) ?_
      · have hrl := hrs.row r hr
        refine ⟨_, rfl, by show (r.map (En.d (α := Ent))).length ≤ _; rw [List.length_map]; omega, ?_⟩
        refine lcL_map En.d (fun e : Ent => En.d (⟨e.f, if e.t < 0 then -1 else (scs.length : Int) - 1 - e.t, e.v⟩ : Ent)) r [] (fun e he K2 q2 => ?_) ?_
        · refine ⟨_, rfl, .int e.f, rfl, _, rfl, _, rfl, .int e.t, rfl, two_big, _, rfl, .int e.t, rfl, ?_⟩
          dsimp only [tCon, oLt, oInt, tNilT]
          by_cases ht : e.t < 0
          · rw [if_pos ht] at q2
            rw [if_pos (decide_eq_true ht)]
            exact ⟨.int (-1), rfl, _, rfl, .int e.v, rfl, three_big', q2⟩
          · rw [if_neg ht] at q2
            rw [if_neg (by rw [decide_eq_false ht]; exact Bool.false_ne_true)]
            exact ⟨.int (((scs.map (En.d (α := Score))).length : Nat) - 1 - e.t), rfl, _, rfl, .int e.v, rfl, three_big', by rw [hml]; exact q2⟩
        · rw [List.nil_append]
          simp only [En.d_list, List.map_map] at q ⊢
          exact q
      · rw [List.nil_append]
        have e5 : En.d (rs.map fun r => r.map fun e : Ent => (⟨e.f, if e.t < 0 then -1 else (scs.length : Int) - 1 - e.t, e.v⟩ : Ent)) = D.tup (rs.map fun r => En.d (r.map fun e : Ent => (⟨e.f, if e.t < 0 then -1 else (scs.length : Int) - 1 - e.t, e.v⟩ : Ent))) := by rw [En.d_list, List.map_map]; rfl
        refine hK _ _ ⟨hs3, rs.map fun r => r.map fun e : Ent => (⟨e.f, if e.t < 0 then -1 else (scs.length : Int) - 1 - e.t, e.v⟩ : Ent), ts.reverse, _, x9, _, x11, x12, x13, x14, ⟨?_, by simpa using htl, fun s hs => hts s (by simpa using hs)⟩, by rw [e5, List.map_reverse]; rfl⟩
        refine phases_of (by rw [List.length_map]; exact hl) fun r hr => ?_
        obtain ⟨r, hrm, rfl⟩ := List.mem_map.mp hr
        refine ⟨by rw [List.length_map]; exact hrs.row r hrm, fun e he => ?_⟩
        obtain ⟨e, hem, rfl⟩ := List.mem_map.mp he
        have ge := hrs.ent r hrm e hem
        rw [List.length_map, List.length_reverse, htl]
        rw [htl] at ge
        obtain ⟨⟨f0, f1, f2⟩, f3⟩ := ge
        by_cases ht : e.t < 0
        · rw [if_pos ht]
          refine ⟨⟨f0, f1, ?_⟩, by show (-1 : Int) < _; omega⟩
          rcases f2 with f2 | f2
          · exact .inl ⟨rfl, f2.2⟩
          · omega
        · rw [if_neg ht]
          rcases f2 with f2 | f2
          · omega
          · exact ⟨⟨f0, f1, .inr ⟨by show (0 : Int) ≤ (scs.length : Int) - 1 - e.t; omega, by show (scs.length : Int) - 1 - e.t ≤ 3; omega, f2.2.2⟩⟩, by show (scs.length : Int) - 1 - e.t < _; omega⟩
    · subst eρ
      refine seqJ P (fun K hK => ?_) (fun ρ g5 ⟨hs5, rs, ts, x8, x9, x10, x11, x12, x13, x14, ⟨hrs, htl, hts⟩, eρ⟩ => ?_)
      · -- kind == 2
        refine ⟨_, rfl, ?_⟩
        dsimp only [tCon]
        refine oEq_en kind 2 trivial trivial (by decide) ⟨_, rfl, ifB (fun _ => ?_) fun _ => hK _ _ ⟨hs4, rs, ts, x8, x9, x10, x11, x12, x13, x14, ⟨hrs, htl, hts⟩, rfl⟩⟩
        refine ⟨_, rfl, _, rfl, a, ((ts.map (En.d (α := Score))).length : Nat), rfl, ⟨by simp; omega, hs4⟩, fun at1 g5 hs5 h0 h1 => ?_⟩
        have hat : at1.toNat < ts.length := by rw [List.length_map] at h1; omega
        have hti := hts _ (List.getElem_mem hat)
        refine ⟨_, rfl, _, rfl, _, rfl, En.d ts[at1.toNat], atI_of (i := at1.toNat) (by omega) (by rw [List.getElem?_map, List.getElem?_eq_getElem hat]; rfl), a, ts[at1.toNat], rfl, ⟨by omega, by omega, hti.2, hs5⟩, fun sc g6 hl hg hs6 => ?_⟩
        refine ⟨⟨_, rfl⟩, _, rfl, at1, _, at1.toNat, rfl, rfl, by rw [List.length_map]; exact ixN_lt h0 (by omega), hK _ _ ⟨hs6, rs, ts.set at1.toNat sc, x8, x9, x10, _, x12, x13, x14, ⟨by rw [List.length_set]; exact hrs, by rw [List.length_set]; exact htl, fun s hs => ?_⟩, by rw [List.map_set]; rfl⟩⟩
        rcases mem_set hs with hs | rfl
        · exact hts s hs
        · exact ⟨by rw [hl]; exact hti.1, hg⟩
      · subst eρ
        refine seqJ P (fun K hK => ?_) (fun ρ g6 ⟨hs6, rs, ts, x8, x9, x10, x11, x12, x13, x14, ⟨hrs, htl, hts⟩, eρ⟩ => ?_)
        · -- kind == 3
          refine ⟨_, rfl, ?_⟩
          dsimp only [tCon]
          refine oEq_en kind 3 trivial trivial (by decide) ⟨_, rfl, ifB (fun _ => ?_) fun _ => hK _ _ ⟨hs5, rs, ts, x8, x9, x10, x11, x12, x13, x14, ⟨hrs, htl, hts⟩, rfl⟩⟩
          have hl := hrs.len
          have hrl : ((rs.map (En.d (α := List Ent))).length : Nat) = rs.length := List.length_map ..
          refine ⟨_, rfl, _, rfl, a, ((rs.map (En.d (α := List Ent))).length : Nat), rfl, ⟨by rw [hrl]; omega, hs5⟩, fun q g6 hs6 q0 q1 => ?_⟩
          refine ⟨_, rfl, _, rfl, by rw [hS]; omega, a, ((SX.S ks).length : Nat), rfl, ⟨by rw [hS]; omega, hs6⟩, fun k g7 hs7 k0 k1 => ?_⟩
          refine ⟨_, _, rfl, ?_⟩
          refine ⟨_, rfl, _, rfl, a, ((rs.map (En.d (α := List Ent))).length : Nat), rfl, ⟨by rw [hrl]; omega, hs7⟩, fun f g8 hs8 f0 f1 => ?_⟩
          refine ⟨_, rfl, rfl, _, rfl, a, 3, rfl, ⟨by decide, hs8⟩, fun v g9 hs9 v0 v1 => ⟨three_big', ?_⟩⟩
          rw [hrl] at q1 f1
          rw [hS] at k1
          obtain ⟨qn, rfl⟩ : ∃ n : Nat, q = n := ⟨q.toNat, by omega⟩
          obtain ⟨kn, rfl⟩ : ∃ n : Nat, k = n := ⟨k.toNat, by omega⟩
          have hq : qn < rs.length := by omega
          have hk : kn < ks.length := by omega
          have hr := phases_row hrs _ (List.getElem_mem hq)
          have hat : atI (rs.map (En.d (α := List Ent))) (qn : Int) = some (En.d rs[qn]) := atI_nat (by rw [List.getElem?_map, List.getElem?_eq_getElem hq]; rfl)
          generalize rs[qn] = r at hr hat
          have hrk : r.length = ks.length := hr.1
          have t1 : (rs.take qn).length = qn := by rw [List.length_take]; omega
          have t2 : (rs.drop (qn + 1)).length = rs.length - (qn + 1) := List.length_drop
          have t3 : (r.take kn).length = kn := by rw [List.length_take]; omega
          have t4 : (r.drop (kn + 1)).length = r.length - (kn + 1) := List.length_drop
          have dq : ((qn : Nat) : Int) + 1 = ((qn + 1 : Nat) : Int) := by omega
          have dk : ((kn : Nat) : Int) + 1 = ((kn + 1 : Nat) : Int) := by omega
          refine ⟨_, rfl, _, rfl, _, rfl, ?_⟩
          dsimp only [oSl, En.d_list, tNoT]
          rw [cutD_take, take_en]
          refine ⟨_, rfl, _, rfl, En.d r, hat, _, rfl, _, rfl, ?_⟩
          dsimp only [oSl, En.d_list, tNoT]
          rw [cutD_take, take_en]
          refine ⟨_, rfl, rfl, one_big, ?_⟩
          refine ⟨by simp only [List.length_map, t3, List.length_cons, List.length_nil]; omega, _, rfl, _, rfl, En.d r, hat, _, rfl, _, rfl, ?_⟩
          dsimp only [oSl, En.d_list, tNoT]
          rw [dk, cutD_drop, drop_en]
          refine ⟨by simp only [List.length_append, List.length_map, t3, t4, List.length_cons, List.length_nil]; omega, one_big, ?_⟩
          refine ⟨by simp only [List.length_map, t1, List.length_cons, List.length_nil]; omega, _, rfl, _, rfl, _, rfl, ?_⟩
          dsimp only [oSl, En.d_list, tNoT]
          rw [dq, cutD_drop, drop_en]
          refine ⟨by simp only [List.length_append, List.length_map, t1, t2, List.length_cons, List.length_nil]; omega, ?_⟩
          let e : Ent := ⟨f, ((scs.map (En.d (α := Score))).length : Nat) - 1, 1 + v⟩
          have ge : GoodEnt rs.length e ∧ e.t < scs.length := by
            refine ⟨⟨f0, by show f < _; omega, .inr ⟨by show (0 : Int) ≤ ((scs.map (En.d (α := Score))).length : Nat) - 1; omega, by show (((scs.map (En.d (α := Score))).length : Nat) : Int) - 1 ≤ 3; omega, by show 1 ≤ 1 + v; omega, by show 1 + v ≤ 3; omega⟩⟩, by show (((scs.map (En.d (α := Score))).length : Nat) : Int) - 1 < _; omega⟩
          have er : (r.take kn).map (En.d (α := Ent)) ++ [En.d e] ++ (r.drop (kn + 1)).map En.d = (r.take kn ++ [e] ++ r.drop (kn + 1)).map En.d := by rw [List.map_append, List.map_append]; rfl
          refine hK _ _ ⟨hs9, rs.take qn ++ [r.take kn ++ [e] ++ r.drop (kn + 1)] ++ rs.drop (qn + 1), ts, x8, x9, x10, x11, some (.int (qn : Nat)), some (.int (kn : Nat)), some (En.d e), ⟨?_, htl, hts⟩, ?_⟩
          · have hll : (rs.take qn ++ [r.take kn ++ [e] ++ r.drop (kn + 1)] ++ rs.drop (qn + 1)).length = rs.length := by simp only [List.length_append, t1, t2, List.length_cons, List.length_nil]; omega
            refine phases_of (by rw [hll]; exact hl) fun r' hr' => ?_
            rw [hll]
            rcases List.mem_append.mp hr' with hr' | hr'
            · rcases List.mem_append.mp hr' with hr' | hr'
              · exact phases_row hrs r' (List.mem_of_mem_take hr')
              · rw [List.mem_singleton.mp hr']
                refine ⟨by simp only [List.length_append, t3, t4, List.length_cons, List.length_nil]; omega, fun e' he' => ?_⟩
                rcases List.mem_append.mp he' with he' | he'
                · rcases List.mem_append.mp he' with he' | he'
                  · exact hr.2 e' (List.mem_of_mem_take he')
                  · rw [List.mem_singleton.mp he', htl]; exact ge
                · exact hr.2 e' (List.mem_of_mem_drop he')
            · exact phases_row hrs r' (List.mem_of_mem_drop hr')
          · have e2 : En.d (rs.take qn ++ [r.take kn ++ [e] ++ r.drop (kn + 1)] ++ rs.drop (qn + 1)) = D.tup ((rs.take qn).map En.d ++ [D.tup ((r.take kn).map (En.d (α := Ent)) ++ [En.d e] ++ (r.drop (kn + 1)).map En.d)] ++ (rs.drop (qn + 1)).map En.d) := by
              rw [er, En.d_list, List.map_append, List.map_append]; rfl
            rw [e2]
            rfl
        · subst eρ
          refine ⟨_, rfl, rfl, _, rfl, rfl, _, rfl, three_big', ?_⟩
          exact h rs ts g6 hrs ⟨by omega, by omega, fun s hs => ⟨by have := (hts s hs).1; omega, by have := (hts s hs).1; omega, (hts s hs).2⟩, span, fun s hs => (hts s hs).1⟩ hs6
end TL
set_option Elab.async false
set_option linter.all false
set_option maxRecDepth 100000
/-! VS12: deep rings; two carillons. -/
namespace TL
open PySem PySem.Spec PyProof.Rows L2
theorem Phases.up {n s t : Nat} {st : States} (h : s ≤ t) (q : Phases n s st) : Phases n t st := ⟨q.len, q.row, fun r hr e he => ⟨(q.ent r hr e he).1, by have := (q.ent r hr e he).2; omega⟩⟩
def SP__law_deep : TSp := fun b ds g Q E => ∃ (a : Addr), ds = [.hnd a] ∧ StoreOk b g a ∧ ∀ (c1 c2 : Car) g', Chm c1 → Chm c2 → StoreOk b g' a → Q (.tup [c1.tp, c2.tp]) g'
theorem ok__law_deep : SpOk 1 SP__law_deep := ⟨fun b ds g Q E ⟨i, e, _⟩ => by rw [e]; rfl, fun b ds g Q Q' E E' w w' ⟨i, e, h, q⟩ => ⟨i, e, h, fun d d2 g' h1 h2 h3 => w _ _ (q d d2 g' h1 h2 h3)⟩⟩
theorem a_good : GoodSlot [("a" : Str)] := good_sub (by decide +kernel)
theorem nil_good : GoodSlot [] := good_sub (List.nil_sublist _)
theorem v__law_deep (b : B) (ds g Q X) (h : SP__law_deep b ds g Q X) : VC (t__law_deep (b := b) SP__law_letters SP__law_take SP__law_delayed) ["store", "letters", "many", "rings", "length", "rows", "q", "score", "at"] ds g Q X := by
  obtain ⟨a, rfl, hs, h⟩ := h
  have hb := sizeLine_big
  refine ⟨_, rfl, a, rfl, hs, fun ks g1 hks hs1 => ?_⟩
  have hk1 := hks.lo
  have hk3 := hks.hi
  have hS : (SX.S ks).length = ks.length := SX.S_len ks
  refine ⟨_, rfl, a, 4, rfl, ⟨by decide, hs1⟩, fun r g2 hs2 r0 r1 => ?_⟩
  refine ⟨Nat.zero_le _, _, rfl, rfl, _, rfl, two_big, ?_⟩
  obtain ⟨m, hm⟩ : ∃ m : Nat, 2 + r = m := ⟨(2 + r).toNat, by omega⟩
  rw [hm]
  have hm2 : 2 ≤ m ∧ m ≤ 5 := by omega
  obtain ⟨l, hl⟩ : ∃ l : List Nat, l = [m, m + 1] := ⟨_, rfl⟩
  rw [show [D.int (m : Nat), D.int ((m : Nat) + 1)] = l.map (fun n : Nat => D.int (n : Nat)) by rw [hl]; rfl]
  refine forL_xs (fun n : Nat => D.int (n : Nat)) (fun (rest : List Nat) ρ g' => g' = g2 ∧ (∀ n ∈ rest, 2 ≤ n ∧ n ≤ 6) ∧ ∃ (rings : List States) (x4 x5 x6 : Option D), ρ = [some (.hnd a), some (.str (SX.S ks)), some (.int m), some (.lst (rings.map En.d)), x4, x5, x6, none, none] ∧ rings.length + rest.length = 2 ∧ ∀ st ∈ rings, Phases ks.length 1 st) l _ _ (fun n rest ρ g' K hK ⟨eg, hn, rings, x4, x5, x6, eρ, hl, hr⟩ => ?_) (fun ρ g' ⟨eg, hn, rings, x4, x5, x6, eρ, hl, hr⟩ => ?_) ⟨rfl, fun n hn => by rw [hl] at hn; simp at hn; omega, [], none, none, none, rfl, by rw [hl]; rfl, fun st hst => by simp at hst⟩
  · subst eg eρ
    rw [List.length_cons] at hl
    obtain ⟨n2, n6⟩ := hn n (List.mem_cons_self ..)
    refine ⟨Nat.zero_le _, _, rfl, n, rfl, ⟨by omega, by omega⟩, ?_⟩
    rw [Int.toNat_natCast]
    refine forL_rng (fun i ρ g3 => g3 = g' ∧ ∃ (st : States) (x6 : Option D), ρ = [some (.hnd a), some (.str (SX.S ks)), some (.int m), some (.lst (rings.map En.d)), some (.int n), some (.lst (st.map En.d)), x6, none, none] ∧ st.length = i ∧ ∀ r ∈ st, RowG ks.length n 1 r) (fun i ρ g3 K2 hi hK2 ⟨eg, st, x6, eρ, hsl, hsr⟩ => ?_) (fun ρ g3 ⟨eg, st, x6, eρ, hsl, hsr⟩ => ?_) ⟨rfl, [], x6, rfl, rfl, fun r hr => by simp at hr⟩
    · subst eg eρ
      refine ⟨⟨_, rfl⟩, _, rfl, _, rfl, by omega, _, rfl, _, rfl, ?_⟩
      dsimp only [tCon, oSub]
      refine oEq_en ((0 : Int) + (i : Nat)) ((m : Nat) - 1) trivial trivial (by decide) ⟨three_big', one_big, ?_⟩
      have good : ∀ v : Int, (v = 1 ∨ v = 2) → GoodEnt n ⟨((0 : Int) + (i : Nat) + 1) % (n : Nat), 0, v⟩ := fun v hv => ⟨Int.emod_nonneg _ (by omega), Int.emod_lt_of_pos _ (by omega), .inr ⟨by show (0 : Int) ≤ 0; omega, by show (0 : Int) ≤ 3; omega, by show 1 ≤ v; omega, by show v ≤ 3; omega⟩⟩
      have fin : ∀ v : Int, (v = 1 ∨ v = 2) → oLen [.str (SX.S ks)] fun d => oMulT (.tup [.tup [.int (((0 : Int) + (i : Nat) + 1) % (n : Nat)), .int 0, .int v]]) d fun d => ∃ es, ([some (.hnd a), some (.str (SX.S ks)), some (.int m), some (.lst (rings.map En.d)), some (.int n), some (.lst (st.map En.d)), some (.int ((0 : Int) + (i : Nat))), none, none] : Rho)[5]? = some (some (.lst es)) ∧ es.length < sizeLine ∧ K2 (([some (.hnd a), some (.str (SX.S ks)), some (.int m), some (.lst (rings.map En.d)), some (.int n), some (.lst (st.map En.d)), some (.int ((0 : Int) + (i : Nat))), none, none] : Rho).set 5 (some (.lst (es ++ [d])))) g3 := fun v hv => by
        refine ⟨by rw [hS]; omega, ⟨fun z => (by cases z), by omega, by rw [hS]; omega, by simp⟩, _, rfl, by simp; omega, hK2 _ _ ⟨rfl, st ++ [(List.replicate ks.length [(⟨((0 : Int) + (i : Nat) + 1) % (n : Nat), 0, v⟩ : Ent)]).flatten], some (.int ((0 : Int) + (i : Nat))), ?_, by simp [hsl], fun r' hr' => ?_⟩⟩
        · rw [hS, Int.toNat_natCast, List.map_append]
          have e := rep_en ks.length [(⟨((0 : Int) + (i : Nat) + 1) % (n : Nat), 0, v⟩ : Ent)]
          rw [List.map_cons, List.map_nil] at e
          show _ = [_, _, _, _, _, some (D.lst (st.map En.d ++ [D.tup _])), _, _, _]
          rw [← e]
          rfl
        · rcases List.mem_append.mp hr' with hr' | hr'
          · exact hsr r' hr'
          · rw [List.mem_singleton.mp hr']
            refine ⟨by rw [List.length_flatten, List.map_replicate, List.sum_replicate_nat]; simp, fun e he => ?_⟩
            obtain ⟨l2, hl1, hl2⟩ := List.mem_flatten.mp he
            rw [(List.mem_replicate.mp hl1).2] at hl2
            rw [List.mem_singleton.mp hl2]
            exact ⟨good v hv, by show (0 : Int) < 1; omega⟩
      by_cases hq : (0 : Int) + (i : Nat) = (m : Nat) - 1
      · rw [decide_eq_true hq]
        exact ⟨_, rfl, fin 2 (.inr rfl)⟩
      · rw [decide_eq_false hq]
        exact ⟨_, rfl, fin 1 (.inl rfl)⟩
    · subst eg eρ
      refine ⟨⟨_, rfl⟩, _, rfl, _, rfl, by simp; omega, hK _ _ ⟨rfl, fun n hn2 => hn n (List.mem_cons_of_mem _ hn2), rings ++ [st], _, _, x6, by rw [List.map_append]; rfl, by simp only [List.length_append, List.length_cons, List.length_nil]; omega, fun s' hs' => ?_⟩⟩
      rcases List.mem_append.mp hs' with hs' | hs'
      · exact hr s' hs'
      · rw [List.mem_singleton.mp hs']
        exact phases_of (by omega) (by rw [hsl]; exact hsr)
  · subst eg eρ
    rw [List.length_nil, Nat.add_zero] at hl
    refine ⟨one_big, one_big, Nat.zero_le _, one_big, _, rfl, a, 24, rfl, ⟨by decide, hs2⟩, fun t g3 hs3 t0 t1 => ?_⟩
    have ht : t.toNat ≤ 23 := by omega
    refine ⟨⟨fun z => (by cases z), t0, by omega, by simp⟩, ?_⟩
    have el : ((List.replicate t.toNat [D.tup []]).flatten).length = t.toNat := by simp
    refine ⟨by rw [el]; simp only [List.length_cons, List.length_nil]; omega, _, rfl, a, 24, rfl, ⟨by decide, hs3⟩, fun s g4 hs4 _ _ => ?_⟩
    let sc : Score := [[("a" : Str)]] ++ (List.replicate t.toNat [([] : List Str)]).flatten
    have scl : sc.length = 1 + t.toNat := by simp [sc]; omega
    have scg : ∀ x ∈ sc, GoodSlot x := fun x hx => by
      rcases List.mem_append.mp hx with hx | hx
      · rw [List.mem_singleton.mp hx]; exact a_good
      · obtain ⟨l2, hl1, hl2⟩ := List.mem_flatten.mp hx
        rw [(List.mem_replicate.mp hl1).2] at hl2
        rw [List.mem_singleton.mp hl2]; exact nil_good
    have esc : En.d sc = D.tup ([D.tup [.str "a"]] ++ (List.replicate t.toNat [D.tup []]).flatten) := by
      have e := rep_en t.toNat [([] : List Str)]
      rw [En.d_list, List.map_append, ← e]; rfl
    refine ⟨sc, s, by rw [esc]; rfl, ⟨by omega, by omega⟩, fun sc' hl1 hm1 => ?_⟩
    refine ⟨_, rfl, a, 2, rfl, ⟨by decide, hs4⟩, fun at1 g5 hs5 a0 a1 => ?_⟩
    have hat : ∀ (z : Int), (z = 0 ∨ z = 1) → ∃ st, Phases ks.length 1 st ∧ atI (rings.map (En.d (α := States))) z = some (En.d st) := fun z hz => by
      have hzl : z.toNat < rings.length := by omega
      exact ⟨rings[z.toNat], hr _ (List.getElem_mem hzl), atI_of (i := z.toNat) (by omega) (by rw [List.getElem?_map, List.getElem?_eq_getElem hzl]; rfl)⟩
    obtain ⟨st1, p1, q1⟩ := hat at1 (by omega)
    obtain ⟨st2, p2, q2⟩ := hat (1 - at1) (by omega)
    have gsc : GoodScore sc' := ⟨by omega, by omega, fun x hx => scg x (hm1 x hx)⟩
    refine ⟨_, rfl, rfl, _, rfl, _, rfl, En.d st1, q1, _, rfl, rfl, one_big, three_big', ?_⟩
    refine ⟨_, rfl, rfl, _, rfl, _, rfl, En.d st2, q2, _, rfl, rfl, _, rfl, rfl, two_big, three_big', two_big, ?_⟩
    refine h ⟨⟨SX.S ks, st1⟩, [sc']⟩ ⟨⟨SX.S ks, st2⟩, [sc', sc']⟩ g5 ⟨⟨ks, hks, rfl, p1⟩, by simp, by simp, fun x hx => ?_, sc'.length, fun x hx => ?_⟩ ⟨⟨ks, hks, rfl, p2.up (Nat.le_of_ble_eq_true rfl)⟩, by simp, by simp, fun x hx => ?_, sc'.length, fun x hx => ?_⟩ hs5
    all_goals
      simp at hx
      rw [hx]
    all_goals exact gsc
end TL
set_option Elab.async false
set_option linter.all false
set_option maxRecDepth 100000
/-! VS13: two carillons. -/
namespace TL
open PySem PySem.Spec PyProof.Rows L2
theorem revS_good {ks : List Nat} (h : GoodLetters ks) : revS (SX.S ks) = SX.S ks.reverse := by
  have e : ∀ n : Nat, n ≤ 3 → Builtin.Str.strSliceIndices none none (-1) n = (List.range n).map fun k => n - 1 - k := by decide +kernel
  have h1 := h.lo
  have h3 := h.hi
  unfold revS
  rw [e _ (by rw [SX.S_len]; exact h3)]
  match ks, h1, h3 with
  | [x], _, _ => rfl
  | [x, y], _, _ => rfl
  | [x, y, z], _, _ => rfl
theorem good_rev {ks : List Nat} (h : GoodLetters ks) : GoodLetters ks.reverse := ⟨by rw [List.length_reverse]; exact h.lo, by rw [List.length_reverse]; exact h.hi, fun k hk => h.mem k (by simpa using hk), (List.reverse_perm ks).nodup_iff.mpr h.nd⟩
def SP__law_two : TSp := SP__law_deep
theorem ok__law_two : SpOk 1 SP__law_two := ok__law_deep
theorem cut25 (ds : List D) : cutD ds none (some 25) = ds.take 25 := cutD_take ds 25
theorem cut23 (ds : List D) : cutD ds none (some 23) = ds.take 23 := cutD_take ds 23
def bigS (s : Score) : Score := (s ++ [[]]).take (if s.length < 24 then 25 else 23)
theorem bigS_good {s : Score} (h : GoodScore s) : GoodScore (bigS s) := by
  obtain ⟨h1, h2, h3⟩ := h
  unfold bigS
  refine ⟨?_, ?_, fun x hx => ?_⟩
  · rw [List.length_take]; simp only [List.length_append, List.length_cons, List.length_nil]; split <;> omega
  · rw [List.length_take]; simp only [List.length_append, List.length_cons, List.length_nil]; split <;> omega
  · rcases List.mem_append.mp (List.mem_of_mem_take hx) with hx | hx
    · exact h3 x hx
    · rw [List.mem_singleton.mp hx]; exact nil_good
theorem bigS_len (s : Score) : (bigS s).length = if s.length < 24 then s.length + 1 else min 23 (s.length + 1) := by
  unfold bigS
  rw [List.length_take]
  simp only [List.length_append, List.length_cons, List.length_nil]
  split <;> omega
theorem v__law_two (b : B) (ds g Q X) (h : SP__law_two b ds g Q X) : VC (t__law_two (b := b) SP__law_chimes SP__law_other SP__law_take SP__law_deep SP__law_letters SP__law_pick) ["store", "one", "two", "kind", "letters", "row", "score"] ds g Q X := by
  obtain ⟨a, rfl, hs, h⟩ := h
  have hb := sizeLine_big
  refine ⟨_, rfl, a, rfl, hs, fun c1 g1 hc1 hs1 => ?_⟩
  obtain ⟨ks, hks, hl, hp⟩ := hc1.lt
  refine ⟨_, rfl, _, rfl, .str c1.chg.letters, rfl, _, rfl, En.d c1.chg.states, rfl, _, rfl, En.d c1.scores, rfl, a, ks, c1.chg.states, c1.scores, by rw [hl]; rfl, ⟨hks, hp, hc1.sc, hs1⟩, fun st sc g2 hst hsc hs2 => ?_⟩
  refine ⟨_, rfl, a, 16, rfl, ⟨by decide, hs2⟩, fun kind g3 hs3 _ _ => ?_⟩
  refine ⟨_, rfl, _, rfl, ifB (fun _ => ⟨_, rfl, a, rfl, hs3, h⟩) fun _ => ?_⟩
  dsimp only [tNextT]
  let P : Rho → b.G → Prop := fun ρ g' => StoreOk b g' a ∧ ∃ (c2 : Car) (x4 x5 x6 : Option D), Chm c2 ∧ ρ = [some (.hnd a), some c1.tp, some c2.tp, some (.int kind), x4, x5, x6]
  have hc2 : Chm ⟨⟨SX.S ks, st⟩, sc⟩ := ⟨⟨ks, hks, rfl, hst⟩, hsc⟩
  refine seqJ P (fun K hK => ?_) (fun ρ g4 ⟨hs4, c2, x4, x5, x6, hc2, eρ⟩ => ?_)
  · refine ifP (fun _ => True) (fun Kb hk => ?_) (fun _ => ?_) fun _ => hK _ _ ⟨hs3, ⟨⟨SX.S ks, st⟩, sc⟩, none, none, none, hc2, rfl⟩
    · refine ⟨_, rfl, ?_⟩
      dsimp only [tCon]
      refine oEq_en kind 2 trivial trivial (by decide) ⟨_, rfl, ifB (fun _ => hk _ trivial) fun _ => ⟨_, rfl, ?_⟩⟩
      dsimp only [tCon]
      exact oEq_en kind 3 trivial trivial (by decide) ⟨_, rfl, hk _ trivial⟩
    · refine ⟨_, rfl, _, rfl, .str c1.chg.letters, rfl, c1.chg.letters, rfl, ?_⟩
      rw [hl, revS_good hks]
      have hrl := good_rev hks
      have hr3 := hrl.hi
      refine ⟨by rw [SX.S_len]; omega, _, rfl, a, rfl, hs3, fun ks2 g4 hks2 hs4 => ⟨two_big, a, _, rfl, ⟨Nat.le_of_ble_eq_true rfl, Nat.le_of_ble_eq_true rfl, hs4, fun d hd => ?_⟩, fun d g5 hd hs5 => ?_⟩⟩
      · simp at hd
        rcases hd with rfl | rfl <;> rfl
      · obtain ⟨ks3, hks3, rfl⟩ : ∃ ks3, GoodLetters ks3 ∧ d = .str (SX.S ks3) := by
          simp at hd
          rcases hd with rfl | rfl
          · exact ⟨_, hrl, rfl⟩
          · exact ⟨_, hks2, rfl⟩
        have h3 := hks3.hi
        have hsl := hst.len
        refine ⟨_, rfl, rfl, _, rfl, En.d st, rfl, by show (st.map (En.d (α := List Ent))).length ≤ _; rw [List.length_map]; omega, ?_⟩
        refine lcL_map En.d (fun r : List Ent => En.d ((List.replicate 3 r).flatten.take ks3.length)) st [] (fun r hr K1 q => ?_) ?_
        · have hrl := hst.row r hr
          have h1 := hks.lo
          have h3 := hks.hi
          refine ⟨_, rfl, ?_⟩
          dsimp only [tCon, tNoT, tAtT, tVarT, tCallO, tConsT, tNilT]
          refine (mul3 (Q := fun d _ => K1 d g5) (g := g5) (n := ks3.length) (by omega) (by omega) q).imp id fun q => ⟨_, rfl, by rw [SX.S_len]; omega, ks3.length, by rw [SX.S_len], q⟩
        · rw [List.nil_append]
          refine ⟨_, rfl, En.d sc, rfl, three_big', hK _ _ ⟨hs5, ⟨⟨SX.S ks3, st.map fun r => (List.replicate 3 r).flatten.take ks3.length⟩, sc⟩, some (.str (SX.S ks3)), none, none, ⟨⟨ks3, hks3, rfl, ?_⟩, hsc⟩, ?_⟩⟩
          · refine phases_of (by rw [List.length_map]; exact hsl) fun r hr => ?_
            obtain ⟨r, hrm, rfl⟩ := List.mem_map.mp hr
            rw [List.length_map]
            exact three_rows (by have := hst.row r hrm; have := hks.lo; omega) (hst.ent r hrm) h3
          · unfold Car.tp
            simp only [En.d_list, List.map_map]
            rfl
  · subst eρ
    refine seqJ P (fun K hK => ?_) (fun ρ g5 ⟨hs5, c2, x4, x5, x6, hc2, eρ⟩ => ?_)
    · refine ifP (fun _ => True) (fun Kb hk => ?_) (fun _ => ?_) fun _ => hK _ _ ⟨hs4, c2, x4, x5, x6, hc2, rfl⟩
      · refine ⟨_, rfl, ?_⟩
        dsimp only [tCon]
        refine oEq_en kind 3 trivial trivial (by decide) ⟨_, rfl, ifB (fun _ => hk _ trivial) fun _ => ⟨_, rfl, ?_⟩⟩
        dsimp only [tCon]
        exact oEq_en kind 4 trivial trivial (by decide) ⟨_, rfl, hk _ trivial⟩
      · obtain ⟨d1, d2, d3, span, d4⟩ := hc2.sc
        refine ⟨_, rfl, .str c2.chg.letters, rfl, _, rfl, En.d c2.chg.states, rfl, _, rfl, En.d c2.scores, rfl, by show (c2.scores.map (En.d (α := Score))).length ≤ _; rw [List.length_map]; omega, ?_⟩
        refine lcL_map En.d (fun s : Score => En.d (bigS s)) c2.scores [] (fun s hs K1 q => ?_) ?_
        · have hgs := d3 s hs
          have h2 := hgs.2.1
          have hml : (s.map (En.d (α := List Str))).length = s.length := List.length_map ..
          refine ⟨_, rfl, Nat.zero_le _, one_big, ?_⟩
          dsimp only [tNilT, En.d_list, oAdd, tNoT, tAtT]
          refine ⟨by rw [hml]; simp only [List.length_cons, List.length_nil]; omega, two_big, _, rfl, ?_⟩
          dsimp only [tNilT, tCon, oLen, oLt, oInt]
          unfold bigS at q
          rw [hml]
          by_cases hlt : s.length < 24
          · rw [if_pos hlt] at q
            rw [if_pos (decide_eq_true (by omega))]
            refine ⟨.int 25, rfl, 25, rfl, ?_⟩
            dsimp only [oSl]
            rw [cut25]
            rw [En.d_list, List.map_take, List.map_append] at q
            exact q
          · rw [if_neg hlt] at q
            rw [if_neg (by rw [decide_eq_false (by omega)]; exact Bool.false_ne_true)]
            refine ⟨.int 23, rfl, 23, rfl, ?_⟩
            dsimp only [oSl]
            rw [cut23]
            rw [En.d_list, List.map_take, List.map_append] at q
            exact q
        · rw [List.nil_append]
          refine ⟨three_big', hK _ _ ⟨hs4, ⟨c2.chg, c2.scores.map bigS⟩, x4, x5, x6, ⟨?_, by simpa using d1, by simpa using d2, fun s hs => ?_, if span < 24 then span + 1 else min 23 (span + 1), fun s hs => ?_⟩, ?_⟩⟩
          · obtain ⟨ks2, e1, e2, e3⟩ := hc2.lt
            exact ⟨ks2, e1, e2, by show Phases _ (c2.scores.map bigS).length _; rw [List.length_map]; exact e3⟩
          · obtain ⟨s, hsm, rfl⟩ := List.mem_map.mp hs
            exact bigS_good (d3 s hsm)
          · obtain ⟨s, hsm, rfl⟩ := List.mem_map.mp hs
            rw [bigS_len, d4 s hsm]
          · unfold Car.tp
            have e : En.d (c2.scores.map bigS) = D.tup (c2.scores.map fun s => En.d (bigS s)) := by rw [En.d_list, List.map_map]; rfl
            rw [e]
            rfl
    · subst eρ
      exact ⟨_, rfl, rfl, _, rfl, rfl, two_big, h c1 c2 g5 hc1 hc2 hs5⟩
end TL
set_option Elab.async false
set_option linter.all false
set_option maxRecDepth 100000
/-! VS14: check_changer. -/
namespace TL
open PySem PySem.Spec PyProof.Rows L2
theorem v_check_changer (b : B) (ds g Q X) (h : SP_check_changer b ds g Q X) : VC (t_check_changer (b := b) SP_are_letters SP_is_entry) ["letters", "states", "state", "row", "place", "entry"] ds g Q X := by
  obtain ⟨⟨letters, states⟩, d, rfl, hd, ⟨⟨ks, hks, hl⟩, hst, hrow, hent⟩, h⟩ := h
  have hl : letters = SX.S ks := hl
  subst hl
  have hb := sizeLine_big
  have k1 := hks.lo
  have k3 := hks.hi
  have hS : (SX.S ks).length = ks.length := SX.S_len ks
  have hle : (SX.S ks).length ≤ sizeLine := by rw [hS]; omega
  have s1 : 1 ≤ states.length := hst.1
  have s6 : states.length ≤ 6 := hst.2
  have hml : (states.map (En.d (α := List Ent))).length = states.length := List.length_map ..
  have e1 : decide ((1 : Int) ≤ ((SX.S ks).length : Nat)) = true := decide_eq_true (by rw [hS]; omega)
  have e2 : decide ((((SX.S ks).length : Nat) : Int) ≤ 3) = true := decide_eq_true (by rw [hS]; omega)
  have e3 : decide ((1 : Int) ≤ ((states.map (En.d (α := List Ent))).length : Nat)) = true := decide_eq_true (by rw [hml]; omega)
  have e4 : decide ((((states.map (En.d (α := List Ent))).length : Nat) : Int) ≤ 6) = true := decide_eq_true (by rw [hml]; omega)
  refine ⟨_, rfl, hle, _, rfl, if1 e1 ⟨_, rfl, if0 (by rw [e2]; rfl) ?_⟩⟩
  refine ⟨_, rfl, oLen_seq hd ⟨_, rfl, if1 e3 ⟨_, rfl, if0 (by rw [e4]; rfl) ?_⟩⟩⟩
  refine ⟨_, rfl, ks, rfl, hks, _, rfl, if0 rfl ⟨_, rfl, ks, rfl, ⟨hks.nd, by omega⟩, _, rfl, hle, ?_⟩⟩
  rw [hS]
  refine oNe_en ((ks.length : Nat) : Int) ((ks.length : Nat) : Int) trivial trivial (by decide) ⟨_, rfl, if0 (by simp) ?_⟩
  refine ⟨_, rfl, oIterE_seq hd ?_⟩
  rw [enumD_map]
  refine forL_xs (fun q : List Ent × Nat => D.tup [.int (q.2 : Nat), En.d q.1]) (fun rest ρ g1 => g1 = g ∧ (∀ q ∈ rest, q.1 ∈ states) ∧ ∃ (x2 x3 x4 x5 : Option D), ρ = [some (.str (SX.S ks)), some d, x2, x3, x4, x5]) _ _ _ (fun q rest ρ g1 K hK ⟨eg, hq, x2, x3, x4, x5, eρ⟩ => ?_) (fun ρ g1 ⟨eg, _⟩ => ?_) ⟨rfl, fun q hq => zipIdx_mem hq, _, _, _, _, rfl⟩
  · subst eg eρ
    have hqs := hq q (List.mem_cons_self ..)
    have hr : q.1.length = ks.length := hrow _ hqs
    refine ⟨_, rfl, rfl, _, _, rfl, _, _, rfl, rfl, ?_⟩
    refine ⟨_, rfl, _, rfl, hle, ?_⟩
    rw [hS]
    refine oNe_en (((q.1.map (En.d (α := Ent))).length : Nat) : Int) ((ks.length : Nat) : Int) trivial trivial (by decide) ⟨_, rfl, if0 (by rw [List.length_map, hr]; simp) ?_⟩
    refine ⟨_, rfl, ?_⟩
    show forL _ _ _ _ (enumD (q.1.map En.d)) _ _
    rw [enumD_map]
    refine forL_xs (fun p : Ent × Nat => D.tup [.int (p.2 : Nat), En.d p.1]) (fun rest ρ g2 => g2 = g1 ∧ (∀ p ∈ rest, p.1 ∈ q.1) ∧ ∃ (x2 x3 x4 x5 : Option D), ρ = [some (.str (SX.S ks)), some d, x2, x3, x4, x5]) _ _ _ (fun p rest2 ρ g2 K2 hK2 ⟨eg, hp, x2, x3, x4, x5, eρ⟩ => ?_) (fun ρ g2 ⟨eg, _, x2, x3, x4, x5, eρ⟩ => ?_) ⟨rfl, fun p hp => zipIdx_mem hp, _, _, _, _, rfl⟩
    · subst eg eρ
      refine ⟨_, rfl, rfl, _, _, rfl, _, _, rfl, rfl, ?_⟩
      refine ⟨_, rfl, _, rfl, oLen_seq hd ⟨p.1, states.length, by rw [hml]; rfl, hent _ hqs _ (hp p (List.mem_cons_self ..)), _, rfl, if0 rfl (hK2 _ _ ⟨rfl, fun p hp2 => hp p (List.mem_cons_of_mem _ hp2), _, _, _, _, rfl⟩)⟩⟩
    · subst eg eρ
      exact hK _ _ ⟨rfl, fun q hq2 => hq q (List.mem_cons_of_mem _ hq2), _, _, _, _, rfl⟩
  · subst eg
    exact h
end TL
set_option Elab.async false
set_option linter.all false
set_option maxRecDepth 100000
/-! VT1: words that tell apart; the least of them. -/
namespace TL
open PySem PySem.Spec PyProof.Rows L2
/-- a word as a number: by length, then letters -/
def num (B : Nat) (w : List Nat) : Nat := w.foldl (fun a k => a * B + (k + 1)) 0
theorem num_snoc (B : Nat) (w : List Nat) (k : Nat) : num B (w ++ [k]) = num B w * B + (k + 1) := by unfold num; rw [List.foldl_append]; rfl
theorem snoc_cases (w : List Nat) : w = [] ∨ ∃ u k, w = u ++ [k] := by
  rcases List.eq_nil_or_concat w with h | ⟨u, k, h⟩
  · exact .inl h
  · exact .inr ⟨u, k, by simpa using h⟩
section
variable {B : Nat}
theorem num_lt_len : ∀ (n : Nat) (w x : List Nat), w.length = n → (∀ k ∈ w, k < B) → w.length < x.length → num B w < num B x
  | 0, w, x, hn, _, hl => by
    obtain rfl : w = [] := List.length_eq_zero_iff.mp hn
    rcases snoc_cases x with rfl | ⟨u, k, rfl⟩
    · simp at hl
    · rw [num_snoc]; show 0 < _; omega
  | n + 1, w, x, hn, hw, hl => by
    rcases snoc_cases w with rfl | ⟨u, k, rfl⟩
    · simp at hn
    rcases snoc_cases x with rfl | ⟨y, l, rfl⟩
    · simp at hl
    rw [List.length_append, List.length_append] at hl
    rw [List.length_append] at hn
    have ih := num_lt_len n u y (by simpa using hn) (fun j hj => hw j (List.mem_append_left _ hj)) (by simpa using hl)
    have hk := hw k (List.mem_append_right _ (List.mem_cons_self ..))
    have h1 : (num B u + 1) * B ≤ num B y * B := Nat.mul_le_mul_right B ih
    rw [num_snoc, num_snoc]
    rw [Nat.add_mul] at h1
    omega
theorem num_lex : ∀ (n : Nat) (i j : Nat) (w x : List Nat), w.length = n → x.length = n → (∀ k ∈ w, k < B) → i < j → num B (i :: w) < num B (j :: x)
  | 0, i, j, w, x, hw, hx, _, h => by
    obtain rfl : w = [] := List.length_eq_zero_iff.mp hw
    obtain rfl : x = [] := List.length_eq_zero_iff.mp hx
    show 0 * B + (i + 1) < 0 * B + (j + 1)
    omega
  | n + 1, i, j, w, x, hw, hx, hd, h => by
    rcases snoc_cases w with rfl | ⟨u, k, rfl⟩
    · simp at hw
    rcases snoc_cases x with rfl | ⟨y, l, rfl⟩
    · simp at hx
    rw [List.length_append] at hw hx
    have ih := num_lex n i j u y (by simpa using hw) (by simpa using hx) (fun j hj => hd j (List.mem_append_left _ hj)) h
    have hk := hd k (List.mem_append_right _ (List.mem_cons_self ..))
    have h1 : (num B (i :: u) + 1) * B ≤ num B (j :: y) * B := Nat.mul_le_mul_right B ih
    rw [← List.cons_append, ← List.cons_append, num_snoc, num_snoc]
    rw [Nat.add_mul] at h1
    omega
theorem num_app : ∀ (n : Nat) (u v x : List Nat), x.length = n → num B u ≤ num B v → num B (u ++ x) ≤ num B (v ++ x)
  | 0, u, v, x, hx, h => by
    obtain rfl : x = [] := List.length_eq_zero_iff.mp hx
    simpa using h
  | n + 1, u, v, x, hx, h => by
    rcases snoc_cases x with rfl | ⟨y, l, rfl⟩
    · simp at hx
    rw [List.length_append] at hx
    have ih := num_app n u v y (by simpa using hx) h
    have h1 := Nat.mul_le_mul_right B ih
    rw [← List.append_assoc, ← List.append_assoc, num_snoc, num_snoc]
    omega
theorem num_app_lt (hB : 0 < B) : ∀ (n : Nat) (u v x : List Nat), x.length = n → num B u < num B v → num B (u ++ x) < num B (v ++ x)
  | 0, u, v, x, hx, h => by
    obtain rfl : x = [] := List.length_eq_zero_iff.mp hx
    simpa using h
  | n + 1, u, v, x, hx, h => by
    rcases snoc_cases x with rfl | ⟨y, l, rfl⟩
    · simp at hx
    rw [List.length_append] at hx
    have ih := num_app_lt hB n u v y (by simpa using hx) h
    have h1 := Nat.mul_lt_mul_of_pos_right ih hB
    rw [← List.append_assoc, ← List.append_assoc, num_snoc, num_snoc]
    omega
theorem num_cons_le (n i : Nat) (w x : List Nat) (hw : w.length = n) (hx : x.length = n) (h : num B w ≤ num B x) : num B (i :: w) ≤ num B (i :: x) := by
  have key : ∀ (n : Nat) (w x : List Nat), w.length = n → x.length = n → ∀ d : Nat, num B (i :: w) + num B x = num B (i :: x) + num B w := by
    intro n
    induction n with
    | zero =>
      intro w x hw hx _
      obtain rfl : w = [] := List.length_eq_zero_iff.mp hw
      obtain rfl : x = [] := List.length_eq_zero_iff.mp hx
      rfl
    | succ n ih =>
      intro w x hw hx d
      rcases snoc_cases w with rfl | ⟨u, k, rfl⟩
      · simp at hw
      rcases snoc_cases x with rfl | ⟨y, l, rfl⟩
      · simp at hx
      rw [List.length_append] at hw hx
      have ih := congrArg (· * B) (ih u y (by simpa using hw) (by simpa using hx) d)
      simp only [Nat.add_mul] at ih
      rw [← List.cons_append, ← List.cons_append, num_snoc, num_snoc, num_snoc, num_snoc]
      omega
  have := key n w x hw hx 0
  omega
theorem num_more : ∀ (n : Nat) (u x : List Nat), x.length = n → 0 < B → x ≠ [] → num B u < num B (u ++ x)
  | 0, u, x, hx, _, h => absurd (List.length_eq_zero_iff.mp hx) h
  | n + 1, u, x, hx, hB, h => by
    rcases snoc_cases x with rfl | ⟨y, l, rfl⟩
    · exact absurd rfl h
    rw [← List.append_assoc, num_snoc]
    have h1 : num B u ≤ num B (u ++ y) := by
      cases y with
      | nil => simp
      | cons a y => exact Nat.le_of_lt (num_more n u (a :: y) (by simpa using hx) hB (by simp))
    have h2 := Nat.le_mul_of_pos_right (num B (u ++ y)) hB
    omega
end
/-! ### telling words -/
def hrdAt (rows : HRows) (a k : Nat) : Heard := ((rowAt rows a).getD k ([], 0)).1
def Tells (rows : HRows) : Nat → Nat → List Nat → Prop
  | _, _, [] => False
  | a, b, [k] => hrdAt rows a k ≠ hrdAt rows b k
  | a, b, k :: l :: w => Tells rows (folAt rows a k) (folAt rows b k) (l :: w)
theorem Tells.cons {rows : HRows} {a b k : Nat} {v : List Nat} (h : v ≠ []) : Tells rows a b (k :: v) ↔ Tells rows (folAt rows a k) (folAt rows b k) v := by
  cases v with
  | nil => exact absurd rfl h
  | cons l v => exact Iff.rfl
section
variable {rows : HRows} {L : Nat}
theorem row_get {a k : Nat} (hr : ∀ r ∈ rows, r.length = L) (ha : a < rows.length) (hk : k < L) : (rowAt rows a)[k]? = some ((rowAt rows a).getD k ([], 0)) := by
  have : k < (rowAt rows a).length := by rw [hr _ (rowAt_mem ha)]; exact hk
  rw [List.getD_eq_getElem?_getD, List.getElem?_eq_getElem this]; rfl
theorem fol_lt {a k : Nat} (hw : WfRows rows) (hr : ∀ r ∈ rows, r.length = L) (ha : a < rows.length) (hk : k < L) : folAt rows a k < rows.length := by
  have := hw.fol _ (rowAt_mem ha) _ (List.mem_of_getElem? (row_get hr ha hk))
  unfold folAt; omega
/-- rows of one number by the k-th partition: no short word tells them apart -/
theorem tells_long (hw : WfRows rows) (hr : ∀ r ∈ rows, r.length = L) : ∀ (k a b : Nat) (x : List Nat), a < rows.length → b < rows.length → nth (partK rows k) a = nth (partK rows k) b → (∀ l ∈ x, l < L) → Tells rows a b x → k + 2 ≤ x.length
  | k, a, b, [], _, _, _, _, h => h.elim
  | k, a, b, [l], ha, hb, he, hd, h => by
    have h0 := (P0_eq ha hb).mp (P_le ha hb (Nat.zero_le k) he)
    have hl := hd l (List.mem_cons_self ..)
    have h1 := congrArg (fun z => z[l]?) h0
    simp only [List.getElem?_map, row_get hr ha hl, row_get hr hb hl, Option.map_some] at h1
    exact absurd (Option.some.inj h1) h
  | 0, a, b, l :: m :: x, _, _, _, _, _ => by simp
  | k + 1, a, b, l :: m :: x, ha, hb, he, hd, h => by
    have hl := hd l (List.mem_cons_self ..)
    have h5 := ((PS_eq ha hb).mp he).2
    have h6 := congrArg (fun z => z[l]?) h5
    simp only [List.getElem?_map, row_get hr ha hl, row_get hr hb hl, Option.map_some] at h6
    have ih := tells_long hw hr k (folAt rows a l) (folAt rows b l) (m :: x) (fol_lt hw hr ha hl) (fol_lt hw hr hb hl) (Option.some.inj h6) (fun z hz => hd z (List.mem_cons_of_mem _ hz)) h
    simp at ih ⊢
    omega
/-- the least word that tells a from b -/
structure MinTell (rows : HRows) (L a b : Nat) (w : List Nat) : Prop where
  tells : Tells rows a b w
  dig : ∀ k ∈ w, k < L
  min : ∀ x, (∀ k ∈ x, k < L) → Tells rows a b x → num L w ≤ num L x
theorem wordOf_min (hw : WfRows rows) (hr : ∀ r ∈ rows, r.length = L) : ∀ {r a b : Nat} {w : List Nat}, WordOf rows r a b w → a < rows.length → b < rows.length → (∀ k, k < r → nth (partK rows k) a = nth (partK rows k) b) → MinTell rows L a b w := by
  intro r a b w h
  induction h with
  | @zero a b n fd =>
    intro ha hb _
    have hn : n < L := by have := fd.2.1; rw [List.length_map, hr _ (rowAt_mem ha)] at this; exact this
    refine ⟨?_, fun k hk => by rw [List.mem_singleton.mp hk]; exact hn, fun x hd hx => ?_⟩
    · have h4 := fd.2.2.2
      rw [List.getElem?_map, List.getElem?_map, row_get hr ha hn, row_get hr hb hn] at h4
      exact fun z => h4 (congrArg some z)
    · match x, hx with
      | [k], hx =>
        have hk := hd k (List.mem_cons_self ..)
        have : n ≤ k := by
          refine Decidable.byContradiction fun z => hx ?_
          have h1 := fd.1 k (by omega)
          rw [List.getElem?_map, List.getElem?_map, row_get hr ha hk, row_get hr hb hk] at h1
          exact Option.some.inj h1
        show 0 * L + (n + 1) ≤ 0 * L + (k + 1)
        omega
      | k :: l :: x, hx => exact Nat.le_of_lt (num_lt_len 1 [n] (k :: l :: x) rfl (fun j hj => by rw [List.mem_singleton.mp hj]; exact hn) (by simp))
  | @succ r a b n w fd hwo ih =>
    intro ha hb heq
    have hn : n < L := by have := fd.2.1; rw [List.length_map, hr _ (rowAt_mem ha)] at this; exact this
    have hlen := wordOf_len hwo
    have step : ∀ k l, k < r → l < L → nth (partK rows k) (folAt rows a l) = nth (partK rows k) (folAt rows b l) := fun k l hk hl => by
      have h5 := ((PS_eq ha hb).mp (heq (k + 1) (by omega))).2
      have h6 := congrArg (fun z => z[l]?) h5
      simp only [List.getElem?_map, row_get hr ha hl, row_get hr hb hl, Option.map_some] at h6
      exact Option.some.inj h6
    have ih := ih (fol_lt hw hr ha hn) (fol_lt hw hr hb hn) fun k hk => step k n hk hn
    have hne : w ≠ [] := fun z => by rw [z] at hlen; cases hlen
    refine ⟨(Tells.cons hne).mpr ih.tells, fun k hk => ?_, fun x hd hx => ?_⟩
    · rcases List.mem_cons.mp hk with rfl | hk
      · exact hn
      · exact ih.dig k hk
    · have hlong := tells_long hw hr r a b x ha hb (heq r (by omega)) hd hx
      match x, hx, hlong with
      | k :: l :: x, hx, hlong =>
        have hk := hd k (List.mem_cons_self ..)
        have hd' : ∀ z ∈ l :: x, z < L := fun z hz => hd z (List.mem_cons_of_mem _ hz)
        by_cases hl : (l :: x).length = r + 1
        · have hx : Tells rows (folAt rows a k) (folAt rows b k) (l :: x) := hx
          have hkn : n ≤ k := by
            refine Decidable.byContradiction fun z => ?_
            have h1 := fd.1 k (by omega)
            rw [List.getElem?_map, List.getElem?_map, row_get hr ha hk, row_get hr hb hk] at h1
            have := tells_long hw hr r _ _ (l :: x) (fol_lt hw hr ha hk) (fol_lt hw hr hb hk) (Option.some.inj h1) hd' hx
            omega
          rcases Nat.eq_or_lt_of_le hkn with rfl | hlt
          · exact num_cons_le (r + 1) n w (l :: x) hlen hl (ih.min _ hd' hx)
          · exact Nat.le_of_lt (num_lex (r + 1) n k w (l :: x) hlen hl ih.dig hlt)
        · refine Nat.le_of_lt (num_lt_len (r + 2) (n :: w) (k :: l :: x) (by simp [hlen]) (fun z hz => ?_) ?_)
          · rcases List.mem_cons.mp hz with rfl | hz
            · exact hn
            · exact ih.dig z hz
          · simp at hl hlong ⊢
            omega
/-- rows in one block for good: no word tells them apart -/
theorem stable_tells (hw : WfRows rows) (hr : ∀ r ∈ rows, r.length = L) {m a b : Nat} (hm : Stable rows m) (ha : a < rows.length) (hb : b < rows.length) (he : nth (partK rows m) a = nth (partK rows m) b) (x : List Nat) (hd : ∀ l ∈ x, l < L) : ¬ Tells rows a b x := fun h => by
  have hk : ∀ k, nth (partK rows (m + k)) a = nth (partK rows (m + k)) b := fun k => by
    have e : partK rows (m + k) = partK rows m := by
      induction k with
      | zero => rfl
      | succ k ih =>
        show refL rows (partK rows (m + k)) = _
        rw [ih]
        exact hm.fix
    rw [e]; exact he
  have := tells_long hw hr (m + x.length) a b x ha hb (hk x.length) hd h
  omega
end
end TL
set_option Elab.async false
set_option linter.all false
set_option maxRecDepth 100000
/-! VT2: the law's search for a telling word. -/
namespace TL
open PySem PySem.Spec PyProof.Rows L2
abbrev Hd := Nat × Nat × List Nat
def headD (ls : Str) (h : Hd) : D := .tup [.int h.1, .int h.2.1, .str (wordS ls h.2.2)]
def pairD (h : Hd) : D := .tup [.int h.1, .int h.2.1]
structure TI (rows : HRows) (L n : Nat) (hs : List Hd) : Prop where
  nd : (hs.map fun h => (h.1, h.2.1)).Nodup
  rng : ∀ h ∈ hs, h.1 < n ∧ n ≤ h.2.1 ∧ h.2.1 < rows.length
  dig : ∀ h ∈ hs, ∀ k ∈ h.2.2, k < L
  inc : hs.Pairwise fun h h' => num L h.2.2 < num L h'.2.2
  lead : ∀ h ∈ hs, ∀ v, v ≠ [] → Tells rows h.1 h.2.1 v → Tells rows 0 n (h.2.2 ++ v)
  wl : ∀ h ∈ hs, h.2.2.length ≤ hs.length
/-- the least telling word goes through what is still to be looked at -/
def TG (rows : HRows) (o : Option (List Nat)) (t k : Nat) (hs : List Hd) : Prop := ∀ w, o = some w → ∃ (j : Nat) (h : Hd) (v : List Nat), t ≤ j ∧ hs[j]? = some h ∧ w = h.2.2 ++ v ∧ Tells rows h.1 h.2.1 v ∧ (j = t → ∀ v0, v.head? = some v0 → k ≤ v0)
def TellRes (rows : HRows) (L n : Nat) (o : Option (List Nat)) : Prop := match o with
  | none => ∀ x, (∀ k ∈ x, k < L) → ¬ Tells rows 0 n x
  | some w => MinTell rows L 0 n w
def resD (ls : Str) (o : Option (List Nat)) : D := match o with
  | none => .non
  | some w => .str (wordS ls w)
/-- the first n rows and the others keep apart -/
structure Apart (rows : HRows) (n : Nat) : Prop where
  lo : ∀ a, a < n → ∀ h ∈ rowAt rows a, h.2 < n
  hi : ∀ a, n ≤ a → a < rows.length → ∀ h ∈ rowAt rows a, n ≤ h.2
  n6 : 1 ≤ n ∧ n ≤ 6
  m6 : n < rows.length ∧ rows.length ≤ n + 6
def prodL (n m : Nat) : List (Nat × Nat) := (List.range n).flatMap fun i => (List.range m).map fun j => (i, n + j)
theorem prodL_len (n m : Nat) : (prodL n m).length = n * m := by
  unfold prodL
  rw [List.length_flatMap]
  have : ∀ l : List Nat, (l.map fun i => ((List.range m).map fun j => (i, n + j)).length).sum = l.length * m := fun l => by
    induction l with
    | nil => simp
    | cons a l ih => simp only [List.length_map, List.length_range, List.map_cons, List.sum_cons, List.length_cons] at ih ⊢; rw [ih, Nat.add_mul]; omega
  rw [this, List.length_range]
theorem ti_len {rows : HRows} {L n : Nat} {hs : List Hd} (h : TI rows L n hs) (ha : Apart rows n) : hs.length ≤ 36 := by
  have h1 := nodup_le _ (prodL n (rows.length - n)) h.nd fun x hx => by
    obtain ⟨y, hy, rfl⟩ := List.mem_map.mp hx
    obtain ⟨r1, r2, r3⟩ := h.rng y hy
    exact List.mem_flatMap.mpr ⟨y.1, by simpa using r1, List.mem_map.mpr ⟨y.2.1 - n, by simp; omega, by rw [Nat.add_sub_cancel' r2]⟩⟩
  rw [List.length_map, prodL_len] at h1
  have := ha.n6
  have := ha.m6
  have : n * (rows.length - n) ≤ 6 * 6 := Nat.mul_le_mul (by omega) (by omega)
  omega
section
variable {rows : HRows} {L n : Nat} {hs : List Hd} {o : Option (List Nat)} {t k : Nat} {h : Hd}
theorem pw_lt {hs : List Hd} (hi : hs.Pairwise fun h h' => num L h.2.2 < num L h'.2.2) {i j : Nat} {a b : Hd} (ha : hs[i]? = some a) (hb : hs[j]? = some b) (hij : i < j) : num L a.2.2 < num L b.2.2 := by
  obtain ⟨h1, rfl⟩ := List.getElem?_eq_some_iff.mp ha
  obtain ⟨h2, rfl⟩ := List.getElem?_eq_some_iff.mp hb
  exact List.pairwise_iff_getElem.mp hi i j h1 h2 hij
/-- a difference at the place that is looked at tells the least word -/
theorem tell_here (hL : 0 < L) (I : TI rows L n hs) (hres : TellRes rows L n o) (hG : TG rows o t k hs) (ht : hs[t]? = some h) (hk : k < L) (hne : hrdAt rows h.1 k ≠ hrdAt rows h.2.1 k) : o = some (h.2.2 ++ [k]) := by
  have hm := List.mem_of_getElem? ht
  have tl : Tells rows 0 n (h.2.2 ++ [k]) := I.lead h hm [k] (by simp) hne
  have dg : ∀ x ∈ h.2.2 ++ [k], x < L := fun x hx => by
    rcases List.mem_append.mp hx with hx | hx
    · exact I.dig h hm x hx
    · rw [List.mem_singleton.mp hx]; exact hk
  cases o with
  | none => exact absurd tl (hres _ dg)
  | some w =>
    have hmin := (show MinTell rows L 0 n w from hres).min _ dg tl
    obtain ⟨j, h', v, h1, h2, rfl, h4, h5⟩ := hG w rfl
    have hv : v ≠ [] := fun z => by rw [z] at h4; exact h4
    obtain ⟨v0, v', rfl⟩ : ∃ v0 v', v = v0 :: v' := by
      cases v with
      | nil => exact absurd rfl hv
      | cons a l => exact ⟨a, l, rfl⟩
    have e1 : h'.2.2 ++ (v0 :: v') = (h'.2.2 ++ [v0]) ++ v' := by simp
    have hge : num L (h'.2.2 ++ [v0]) ≤ num L (h'.2.2 ++ (v0 :: v')) := by
      rw [e1]
      cases v' with
      | nil => simp
      | cons a l => exact Nat.le_of_lt (num_more _ _ (a :: l) rfl hL (by simp))
    rw [num_snoc] at hge hmin
    rcases Nat.eq_or_lt_of_le h1 with rfl | hlt
    · rw [ht] at h2
      cases h2
      have hkv := h5 rfl v0 rfl
      have : v0 = k := by omega
      subst this
      cases v' with
      | nil => rfl
      | cons a l =>
        have := num_more _ (h.2.2 ++ [v0]) (a :: l) rfl hL (by simp)
        rw [← e1, num_snoc] at this
        omega
    · have h6 := pw_lt I.inc ht h2 hlt
      have h7 : (num L h.2.2 + 1) * L ≤ num L h'.2.2 * L := Nat.mul_le_mul_right L h6
      rw [Nat.add_mul] at h7
      omega
/-- the pair is there already -/
theorem tell_seen (hL : 0 < L) (I : TI rows L n hs) (hres : TellRes rows L n o) (hG : TG rows o t k hs) (ht : hs[t]? = some h) (hk : k < L) (heq : hrdAt rows h.1 k = hrdAt rows h.2.1 k) (hbd : ∀ h' ∈ hs, num L h'.2.2 ≤ num L h.2.2 * L + k)
    {g : Hd} (hg : g ∈ hs) (e1 : g.1 = folAt rows h.1 k) (e2 : g.2.1 = folAt rows h.2.1 k) : TG rows o t (k + 1) hs := fun w ew => by
  obtain ⟨j, h', v, h1, h2, h3, h4, h5⟩ := hG w ew
  refine ⟨j, h', v, h1, h2, h3, h4, fun ej v0 hv0 => ?_⟩
  have hkv := h5 ej v0 hv0
  refine Decidable.byContradiction fun z => ?_
  have : v0 = k := by omega
  subst this
  subst ej
  rw [ht] at h2
  cases h2
  cases v with
  | nil => cases hv0
  | cons a v' =>
    cases hv0
    have hv' : v' ≠ [] := fun z => by subst z; exact absurd heq h4
    have h4' : Tells rows g.1 g.2.1 v' := by rw [e1, e2]; exact (Tells.cons hv').mp h4
    subst ew
    have hM : MinTell rows L 0 n w := hres
    have hd : ∀ x ∈ g.2.2 ++ v', x < L := fun x hx => by
      rcases List.mem_append.mp hx with hx | hx
      · exact I.dig g hg x hx
      · exact hM.dig x (by rw [h3]; exact List.mem_append_right _ (List.mem_cons_of_mem _ hx))
    have h6 := hM.min _ hd (I.lead g hg v' hv' h4')
    have h7 := num_app_lt hL v'.length g.2.2 (h.2.2 ++ [v0]) v' rfl (by rw [num_snoc]; have := hbd g hg; omega)
    have e3 : w = (h.2.2 ++ [v0]) ++ v' := by rw [h3]; simp
    rw [← e3] at h7
    omega
/-- a new pair is put behind -/
theorem tell_new (I : TI rows L n hs) (hres : TellRes rows L n o) (hG : TG rows o t k hs) (ht : hs[t]? = some h) (hk : k < L) (heq : hrdAt rows h.1 k = hrdAt rows h.2.1 k) (hbd : ∀ h' ∈ hs, num L h'.2.2 ≤ num L h.2.2 * L + k)
    (hp : folAt rows h.1 k < n) (hq : n ≤ folAt rows h.2.1 k ∧ folAt rows h.2.1 k < rows.length) (hnew : (folAt rows h.1 k, folAt rows h.2.1 k) ∉ hs.map fun h => (h.1, h.2.1)) :
    TI rows L n (hs ++ [(folAt rows h.1 k, folAt rows h.2.1 k, h.2.2 ++ [k])]) ∧ TG rows o t (k + 1) (hs ++ [(folAt rows h.1 k, folAt rows h.2.1 k, h.2.2 ++ [k])]) := by
  have hm := List.mem_of_getElem? ht
  have htl : t < hs.length := (List.getElem?_eq_some_iff.mp ht).1
  refine ⟨⟨?_, fun x hx => ?_, fun x hx => ?_, ?_, fun x hx => ?_, fun x hx => ?_⟩, fun w ew => ?_⟩
  · rw [List.map_append]
    refine List.nodup_append.mpr ⟨I.nd, by simp, fun x hx y hy e => ?_⟩
    rw [List.mem_singleton.mp hy] at e
    rw [e] at hx
    exact hnew hx
  · rcases List.mem_append.mp hx with hx | hx
    · exact I.rng x hx
    · rw [List.mem_singleton.mp hx]; exact ⟨hp, hq⟩
  · rcases List.mem_append.mp hx with hx | hx
    · exact I.dig x hx
    · rw [List.mem_singleton.mp hx]
      intro y hy
      rcases List.mem_append.mp hy with hy | hy
      · exact I.dig h hm y hy
      · rw [List.mem_singleton.mp hy]; exact hk
  · refine List.pairwise_append.mpr ⟨I.inc, List.pairwise_singleton _ _, fun x hx y hy => ?_⟩
    rw [List.mem_singleton.mp hy]
    show num L x.2.2 < num L (h.2.2 ++ [k])
    rw [num_snoc]
    have := hbd x hx
    omega
  · rcases List.mem_append.mp hx with hx | hx
    · exact I.lead x hx
    · rw [List.mem_singleton.mp hx]
      intro v hv hT
      have := I.lead h hm (k :: v) (by simp) ((Tells.cons hv).mpr hT)
      simpa using this
  · rw [List.length_append]
    rcases List.mem_append.mp hx with hx | hx
    · have := I.wl x hx; omega
    · rw [List.mem_singleton.mp hx]
      have := I.wl h hm
      simp only [List.length_append, List.length_cons, List.length_nil]; omega
  · obtain ⟨j, h', v, h1, h2, h3, h4, h5⟩ := hG w ew
    have hjl : j < hs.length := (List.getElem?_eq_some_iff.mp h2).1
    by_cases hc : j = t ∧ v.head? = some k
    · obtain ⟨rfl, hv0⟩ := hc
      rw [ht] at h2
      cases h2
      cases v with
      | nil => cases hv0
      | cons a v' =>
        cases hv0
        have hv' : v' ≠ [] := fun z => by subst z; exact absurd heq h4
        refine ⟨hs.length, _, v', by omega, by rw [List.getElem?_append_right (Nat.le_refl _)]; simp; rfl, by rw [h3]; simp, (Tells.cons hv').mp h4, fun e => by omega⟩
    · refine ⟨j, h', v, h1, by rw [List.getElem?_append_left hjl]; exact h2, h3, h4, fun ej v0 hv0 => ?_⟩
      have := h5 ej v0 hv0
      rcases Nat.eq_or_lt_of_le this with rfl | q
      · exact absurd ⟨ej, hv0⟩ hc
      · exact q
end
def SP__law_telling : TSp := fun b ds g Q E => ∃ (rows : HRows) (n : Nat) (ls : Str) (o : Option (List Nat)), ds = [jointD rows, .int n, .str ls] ∧ ((WfRows rows ∧ (∀ r ∈ rows, r.length = ls.cps.toList.length) ∧ Apart rows n) ∧ (1 ≤ ls.cps.toList.length ∧ ls.cps.toList.length ≤ 3) ∧ TellRes rows ls.cps.toList.length n o) ∧ Q (resD ls o) g
theorem ok__law_telling : SpOk 3 SP__law_telling := ⟨fun b ds g Q E ⟨i, j, k, l, e, _⟩ => by rw [e]; rfl, fun b ds g Q Q' E E' w w' ⟨i, j, k, l, e, h, q⟩ => ⟨i, j, k, l, e, h, w _ _ q⟩⟩
end TL
set_option Elab.async false
set_option linter.all false
set_option maxRecDepth 100000
/-! VT3: the walk's condition for the search. -/
namespace TL
open PySem PySem.Spec PyProof.Rows L2
theorem pair_ok (a b : Int) : (D.tup [.int a, .int b]).kOk := ⟨rfl, rfl, by simp [D.nk, nks, NestedKey.depth, NestedKey.depthAll]⟩
theorem mem_pairs {hs : List Hd} {a b : Nat} : (D.tup [.int a, .int b]).nk ∈ nks (hs.map pairD) ↔ (a, b) ∈ hs.map fun h => (h.1, h.2.1) := by
  rw [nks_map, List.mem_map, List.mem_map]
  constructor
  · rintro ⟨g, hg, e⟩
    have e : NestedKey.tup [.num (g.1 : Nat), .num (g.2.1 : Nat)] = .tup [.num (a : Nat), .num (b : Nat)] := e
    injection e with e
    injection e with e1 e2
    injection e2 with e2 _
    injection e1 with e1
    injection e2 with e2
    exact ⟨g, hg, Prod.ext (by show g.1 = a; omega) (by show g.2.1 = b; omega)⟩
  · rintro ⟨g, hg, e⟩
    injection e with e1 e2
    subst e1 e2
    exact ⟨g, hg, rfl⟩
theorem v__law_telling (w : World) (b : B) (ds g Q X) (h : SP__law_telling b ds g Q X) : VC (t__law_telling (b := b) w) ["rows", "other", "letters", "heads", "seen", "turn", "p", "q", "letters_in", "k", "pair"] ds g Q X := by
  obtain ⟨rows, n, ls, o, rfl, ⟨⟨hw, hr, hA⟩, ⟨hL1, hL3⟩, hres⟩, h⟩ := h
  have hb := sizeLine_big
  have hlen : ls.length = ls.cps.toList.length := by simp [Str.length]
  obtain ⟨L, hL⟩ : ∃ L, ls.cps.toList.length = L := ⟨_, rfl⟩
  rw [hL] at hr hL1 hL3 hres hlen
  have hle : ls.length ≤ sizeLine := by rw [hlen]; omega
  have hn := hA.m6.1
  refine ⟨_, rfl, rfl, three_big, one_big, _, rfl, rfl, two_big, pair_ok _ _, 40, rfl, ⟨by decide, by decide⟩, ?_⟩
  refine forL_rng (n := 40) (fun t ρ g1 => g1 = g ∧ ∃ (hs : List Hd) (x5 x6 x7 x8 x9 x10 : Option D), ρ = [some (jointD rows), some (.int n), some (.str ls), some (.lst (hs.map (headD ls))), some (.dct w (hs.map pairD) (hs.map fun _ => D.bl true)), x5, x6, x7, x8, x9, x10] ∧ TI rows L n hs ∧ TG rows o t 0 hs ∧ ∀ h, hs[t]? = some h → ∀ h' ∈ hs, num L h'.2.2 ≤ num L h.2.2 * L)
    (fun t ρ g1 K ht40 hK ⟨eg, hs, x5, x6, x7, x8, x9, x10, eρ, hI, hG, hbd⟩ => ?_) (fun ρ g1 ⟨eg, hs, x5, x6, x7, x8, x9, x10, eρ, hI, hG, hbd⟩ => ?_) ⟨rfl, [(0, n, [])], none, none, none, none, none, none, ?_, ⟨by simp, fun h hh => ?_, fun h hh => ?_, List.pairwise_singleton _ _, fun h hh => ?_, fun h hh => by rw [List.mem_singleton.mp hh]; exact Nat.zero_le _⟩, fun w ew => ?_, fun h hh h' hh' => ?_⟩
  · subst eg eρ
    have hl36 := ti_len hI hA
    refine ⟨_, rfl, _, rfl, _, rfl, ifB (fun hlt => ?_) fun hge => ?_⟩
    · have hlt : t < hs.length := by rw [List.length_map] at hlt; omega
      have ht : hs[t]? = some hs[t] := by simp [hlt]
      have hbd := hbd _ ht
      have hrng := hI.rng _ (List.getElem_mem hlt)
      generalize hs[t] = hd at ht hbd hrng
      obtain ⟨hp, hqn, hq⟩ := hrng
      refine ⟨_, rfl, _, rfl, headD ls hd, atI_of (i := t) (by omega) (by rw [List.getElem?_map, ht]; rfl), _, rfl, rfl, _, _, rfl, _, _, rfl, _, _, rfl, rfl, ?_⟩
      refine ⟨_, rfl, hle, L, by rw [hlen], ⟨by omega, by omega⟩, ?_⟩
      rw [Int.toNat_natCast]
      refine forL_rng (n := L) (fun k ρ g2 => g2 = g1 ∧ ∃ (hs : List Hd) (x9 x10 : Option D), ρ = [some (jointD rows), some (.int n), some (.str ls), some (.lst (hs.map (headD ls))), some (.dct w (hs.map pairD) (hs.map fun _ => D.bl true)), some (.int ((0 : Int) + (t : Nat))), some (.int hd.1), some (.int hd.2.1), some (.str (wordS ls hd.2.2)), x9, x10] ∧ TI rows L n hs ∧ TG rows o t k hs ∧ hs[t]? = some hd ∧ ∀ h' ∈ hs, num L h'.2.2 ≤ num L hd.2.2 * L + k)
        (fun k ρ g2 K2 hk hK2 ⟨eg, hs, x9, x10, eρ, hI, hG, ht, hbd⟩ => ?_) (fun ρ g2 ⟨eg, hs, x9, x10, eρ, hI, hG, ht, hbd⟩ => ?_) ⟨rfl, hs, x9, x10, rfl, hI, hG, ht, hbd⟩
      · subst eg eρ
        have hl36 := ti_len hI hA
        have hpl : hd.1 < rows.length := by omega
        have g1r := row_get hr hpl hk
        have g2r := row_get hr hq hk
        have f1 := hw.fol _ (rowAt_mem hpl) _ (List.mem_of_getElem? g1r)
        have f2 := hw.fol _ (rowAt_mem hq) _ (List.mem_of_getElem? g2r)
        have lo := hA.lo _ hp _ (List.mem_of_getElem? g1r)
        have hi := hA.hi _ hqn hq _ (List.mem_of_getElem? g2r)
        have ok1 := hw.ok _ (rowAt_mem hpl) _ (List.mem_of_getElem? g1r)
        have ok2 := hw.ok _ (rowAt_mem hq) _ (List.mem_of_getElem? g2r)
        have q1 : atI (rows.map rowD) (hd.1 : Int) = some (rowD (rowAt rows hd.1)) := atI_nat (by rw [List.getElem?_map, rowAt_get hpl]; rfl)
        have q2 : atI (rows.map rowD) (hd.2.1 : Int) = some (rowD (rowAt rows hd.2.1)) := atI_nat (by rw [List.getElem?_map, rowAt_get hq]; rfl)
        have q3 : atI ((rowAt rows hd.1).map hD) ((0 : Int) + (k : Nat)) = some (hD ((rowAt rows hd.1).getD k ([], 0))) := atI_of (i := k) (by omega) (by rw [List.getElem?_map, g1r]; rfl)
        have q4 : atI ((rowAt rows hd.2.1).map hD) ((0 : Int) + (k : Nat)) = some (hD ((rowAt rows hd.2.1).getD k ([], 0))) := atI_of (i := k) (by omega) (by rw [List.getElem?_map, g2r]; rfl)
        have e1 : ((rowAt rows hd.1).getD k ([], 0)).2 = (folAt rows hd.1 k : Nat) := by unfold folAt; omega
        have e2 : ((rowAt rows hd.2.1).getD k ([], 0)).2 = (folAt rows hd.2.1 k : Nat) := by unfold folAt; omega
        have hla : atI ls.cps.toList ((0 : Int) + (k : Nat)) = some (ls.cps.toList.getD k 0) := by
          rw [Int.zero_add]; exact let_at (by rw [hL]; exact hk)
        refine ⟨_, rfl, _, rfl, rowD (rowAt rows hd.1), q1, _, rfl, hD ((rowAt rows hd.1).getD k ([], 0)), q3, En.d ((rowAt rows hd.1).getD k ([], 0)).1, rfl, _, rfl, _, rfl, rowD (rowAt rows hd.2.1), q2, _, rfl, hD ((rowAt rows hd.2.1).getD k ([], 0)), q4, En.d ((rowAt rows hd.2.1).getD k ([], 0)).1, rfl, ?_⟩
        refine oNe_en (hrdAt rows hd.1 k) (hrdAt rows hd.2.1 k) ok1 ok2 (by decide) ⟨_, rfl, ?_⟩
        have dl : hd.2.2.length ≤ 40 := by have := hI.wl _ (List.mem_of_getElem? ht); omega
        by_cases heq : hrdAt rows hd.1 k = hrdAt rows hd.2.1 k
        · refine if0 (by rw [decide_eq_true heq]; rfl) ?_
          refine ⟨_, rfl, _, rfl, rowD (rowAt rows hd.1), q1, _, rfl, hD ((rowAt rows hd.1).getD k ([], 0)), q3, .int ((rowAt rows hd.1).getD k ([], 0)).2, rfl, _, rfl, _, rfl, rowD (rowAt rows hd.2.1), q2, _, rfl, hD ((rowAt rows hd.2.1).getD k ([], 0)), q4, .int ((rowAt rows hd.2.1).getD k ([], 0)).2, rfl, two_big, ?_⟩
          rw [e1, e2]
          refine ⟨_, rfl, _, rfl, ⟨rfl, pair_ok _ _⟩, _, rfl, ?_⟩
          by_cases hin : (folAt rows hd.1 k, folAt rows hd.2.1 k) ∈ hs.map fun h => (h.1, h.2.1)
          · refine if0 (by rw [decide_eq_true (mem_pairs.mpr hin)]; rfl) ?_
            obtain ⟨gg, hg, eg⟩ := List.mem_map.mp hin
            injection eg with eg1 eg2
            exact hK2 _ _ ⟨rfl, hs, _, _, rfl, hI, tell_seen hL1 hI hres hG ht hk heq hbd hg eg1 eg2, ht, fun h' hh' => by have := hbd h' hh'; omega⟩
          · refine if1 (by rw [decide_eq_false (fun z => hin (mem_pairs.mp z))]; rfl) ?_
            obtain ⟨n1, n2⟩ := tell_new hI hres hG ht hk heq hbd (by omega) (by omega) hin
            refine ⟨⟨_, _, rfl⟩, _, rfl, _, _, rfl, ⟨pair_ok _ _, fun z => hin (mem_pairs.mp z), by rw [List.length_map]; omega⟩, ?_⟩
            refine ⟨⟨_, rfl⟩, _, rfl, _, rfl, _, rfl, _, rfl, _, ⟨hle, hla⟩, ?_, one_big, three_big, _, rfl, by rw [List.length_map]; omega, hK2 _ _ ⟨rfl, hs ++ [(folAt rows hd.1 k, folAt rows hd.2.1 k, hd.2.2 ++ [k])], some (.int ((0 : Int) + (k : Nat))), some (.tup [.int (folAt rows hd.1 k : Nat), .int (folAt rows hd.2.1 k : Nat)]), ?_, n1, n2, ?_, fun h' hh' => ?_⟩⟩
            · show (wordS ls hd.2.2).length + 1 ≤ sizeLine
              rw [wordS_len]; omega
            · rw [List.map_append, List.map_append, List.map_append, show wordS ls hd.2.2 ++ ({ cps := #[ls.cps.toList.getD k 0] } : Str) = wordS ls (hd.2.2 ++ [k]) from wordS_snoc ls hd.2.2 k]
              rfl
            · rw [List.getElem?_append_left (List.getElem?_eq_some_iff.mp ht).1]; exact ht
            · rcases List.mem_append.mp hh' with hh' | hh'
              · have := hbd h' hh'; omega
              · rw [List.mem_singleton.mp hh']
                show num L (hd.2.2 ++ [k]) ≤ _
                rw [num_snoc]; omega
        · refine if1 (by rw [decide_eq_false heq]; rfl) ?_
          refine ⟨_, rfl, _, rfl, _, rfl, _, ⟨hle, hla⟩, ?_, ?_⟩
          · show (wordS ls hd.2.2).length + 1 ≤ sizeLine
            rw [wordS_len]; omega
          · have eo := tell_here hL1 hI hres hG ht hk heq
            rw [eo] at h
            have h : Q (.str (wordS ls (hd.2.2 ++ [k]))) g2 := h
            rw [← wordS_snoc] at h
            exact h
      · subst eg eρ
        refine hK _ _ ⟨rfl, hs, _, _, _, _, x9, x10, rfl, hI, fun w ew => ?_, fun h hh h' hh' => ?_⟩
        · obtain ⟨j, h', v, h1, h2, h3, h4, h5⟩ := hG w ew
          refine ⟨j, h', v, ?_, h2, h3, h4, fun _ _ _ => Nat.zero_le _⟩
          rcases Nat.eq_or_lt_of_le h1 with rfl | q
          · exfalso
            cases v with
            | nil => exact h4
            | cons a v =>
              have := h5 rfl a rfl
              subst ew
              have hM : MinTell rows L 0 n w := hres
              have := hM.dig a (by rw [h3]; exact List.mem_append_right _ (List.mem_cons_self ..))
              omega
          · exact q
        · have h6 := pw_lt hI.inc ht hh (Nat.lt_succ_self t)
          have h7 : (num L hd.2.2 + 1) * L ≤ num L h.2.2 * L := Nat.mul_le_mul_right L h6
          rw [Nat.add_mul] at h7
          have := hbd h' hh'
          omega
    · have hge : hs.length ≤ t := by rw [List.length_map] at hge; omega
      refine hK _ _ ⟨rfl, hs, _, x6, x7, x8, x9, x10, rfl, hI, fun w ew => ?_, fun h hh => ?_⟩
      · obtain ⟨j, h', v, h1, h2, _⟩ := hG w ew
        have := (List.getElem?_eq_some_iff.mp h2).1
        omega
      · have := (List.getElem?_eq_some_iff.mp hh).1
        omega
  · subst eg
    have hl36 := ti_len hI hA
    cases o with
    | none => exact h
    | some w0 =>
      obtain ⟨j, h', v, h1, h2, _⟩ := hG w0 rfl
      have := (List.getElem?_eq_some_iff.mp h2).1
      omega
  · show _ = [_, _, _, some (D.lst [headD ls (0, n, [])]), some (D.dct w [pairD (0, n, [])] [D.bl true]), _, _, _, _, _, _]
    have e : wordS ls [] = ("" : Str) := by show SX.S [] = _; decide +kernel
    unfold headD pairD
    rw [e]
    rfl
  · rw [List.mem_singleton.mp hh]; exact ⟨hA.n6.1, Nat.le_refl _, hn⟩
  · rw [List.mem_singleton.mp hh]; intro k hk; simp at hk
  · rw [List.mem_singleton.mp hh]; intro v _ hT; exact hT
  · subst ew
    have hM : MinTell rows L 0 n w := hres
    exact ⟨0, (0, n, []), w, Nat.le_refl _, rfl, rfl, hM.tells, fun _ _ _ => Nat.zero_le _⟩
  · cases hh
    rw [List.mem_singleton.mp hh']
    exact Nat.zero_le _
end TL
set_option Elab.async false
set_option linter.all false
set_option maxRecDepth 100000
/-! VM3: alike for all bells is alike for each; exchange; a carillon is alike itself. -/
namespace TL
open PySem PySem.Spec PyProof.Rows L2
theorem S_inj {a b : List Nat} (h : SX.S a = SX.S b) : a = b := congrArg (fun s : Str => s.cps.toList) h
theorem filter_iff {α : Type} {p q : α → Bool} {l : List α} : l.filter p = l.filter q ↔ ∀ x ∈ l, p x = q x := by
  constructor
  · intro h x hx
    have e : ∀ r : α → Bool, x ∈ l.filter r ↔ r x = true := fun r => by rw [List.mem_filter]; exact ⟨fun z => z.2, fun z => ⟨hx, z⟩⟩
    have e2 := e p
    rw [h, e q] at e2
    exact (Bool.eq_iff_iff.mpr e2).symm
  · intro h
    exact List.filter_congr h
theorem heardSlot_iff {z : Str} {A B : List Str} : heardSlot z A = heardSlot z B ↔ ∀ k ∈ z.cps.toList, (sg k ∈ A ↔ sg k ∈ B) := by
  unfold heardSlot
  constructor
  · intro h k hk
    have := filter_iff.mp (S_inj h) k hk
    simpa using this
  · intro h
    exact congrArg SX.S (filter_iff.mpr fun k hk => decide_eq_decide.mpr (h k hk))
theorem heardSlot_nil (z : Str) : heardSlot z [] = ("" : Str) := by
  unfold heardSlot
  have : (z.cps.toList.filter fun k => decide (sg k ∈ ([] : List Str))) = [] := by simp
  rw [this]
  show SX.S [] = _
  decide +kernel
/-- what stands at the i-th slot of all verses -/
def slotAt (sc : Score) (v i : Nat) : List Str := if i < v * sc.length then sc.getD (i % sc.length) [] else []
theorem count_at (sc : Score) (z : Str) (v i : Nat) (h : i < v * sc.length) : (sc.map (heardSlot z)).getD (i % (sc.map (heardSlot z)).length) ("" : Str) = heardSlot z (slotAt sc v i) := by
  have hp : 0 < sc.length := by
    rcases Nat.eq_zero_or_pos sc.length with e | e
    · rw [e] at h; omega
    · exact e
  have hm := Nat.mod_lt i hp
  unfold slotAt
  rw [if_pos h, List.length_map, List.getD_eq_getElem?_getD, List.getElem?_map, List.getD_eq_getElem?_getD, List.getElem?_eq_getElem hm]
  rfl
theorem mem_count {sc : Score} {z : Str} {v : Nat} {i : Nat} {s : Str} : ((i : Int), s) ∈ oneCount (sc.map (heardSlot z)) v ↔ heardSlot z (slotAt sc v i) = s ∧ s ≠ ("" : Str) := by
  unfold oneCount
  rw [List.mem_filterMap]
  constructor
  · rintro ⟨k, hk, e⟩
    have hk : k < v * sc.length := by simpa using hk
    rw [count_at sc z v k hk] at e
    by_cases h : heardSlot z (slotAt sc v k) = ("" : Str)
    · rw [if_pos h] at e; cases e
    · rw [if_neg h] at e
      injection e with e
      injection e with e1 e2
      have e1 : k = i := by omega
      subst e1
      exact ⟨e2, by rw [← e2]; exact h⟩
  · rintro ⟨h1, h2⟩
    have hi : i < v * sc.length := by
      refine Decidable.byContradiction fun q => h2 ?_
      rw [← h1]
      unfold slotAt
      rw [if_neg q, heardSlot_nil]
    refine ⟨i, by simpa using hi, ?_⟩
    rw [count_at sc z v i hi, h1, if_neg h2]
theorem count_ext {sc1 sc2 : Score} {z : Str} {v1 v2 : Nat} (h : ∀ i, heardSlot z (slotAt sc1 v1 i) = heardSlot z (slotAt sc2 v2 i)) : oneCount (sc1.map (heardSlot z)) v1 = oneCount (sc2.map (heardSlot z)) v2 := by
  have norm : ∀ (sc : Score) (v : Nat) (d : Nat), oneCount (sc.map (heardSlot z)) v = (List.range (v * sc.length + d)).filterMap fun i => if heardSlot z (slotAt sc v i) = ("" : Str) then none else some (((i : Nat) : Int), heardSlot z (slotAt sc v i)) := fun sc v d => by
    unfold oneCount
    rw [range_add, List.filterMap_append, List.length_map]
    have e2 : ((List.range d).map (v * sc.length + ·)).filterMap (fun i => if heardSlot z (slotAt sc v i) = ("" : Str) then none else some (((i : Nat) : Int), heardSlot z (slotAt sc v i))) = [] := by
      rw [List.filterMap_eq_nil_iff]
      intro i hi
      obtain ⟨j, _, rfl⟩ := List.mem_map.mp hi
      have : slotAt sc v (v * sc.length + j) = [] := by unfold slotAt; rw [if_neg (by omega)]
      rw [this, heardSlot_nil, if_pos rfl]
    rw [e2, List.append_nil]
    refine fm_congr _ fun i hi => ?_
    have hi : i < v * sc.length := by simpa using hi
    have := count_at sc z v i hi
    rw [List.length_map] at this
    rw [this]
  rw [norm sc1 v1 (v2 * sc2.length), norm sc2 v2 (v1 * sc1.length), Nat.add_comm (v2 * sc2.length)]
  refine fm_congr _ fun i _ => ?_
  rw [h i]
theorem count_iff {sc1 sc2 : Score} {z : Str} {v1 v2 : Nat} : oneCount (sc1.map (heardSlot z)) v1 = oneCount (sc2.map (heardSlot z)) v2 ↔ ∀ i, heardSlot z (slotAt sc1 v1 i) = heardSlot z (slotAt sc2 v2 i) := by
  refine ⟨fun h i => ?_, count_ext⟩
  by_cases h1 : heardSlot z (slotAt sc1 v1 i) = ("" : Str)
  · by_cases h2 : heardSlot z (slotAt sc2 v2 i) = ("" : Str)
    · rw [h1, h2]
    · have : ((i : Int), heardSlot z (slotAt sc2 v2 i)) ∈ oneCount (sc1.map (heardSlot z)) v1 := by rw [h]; exact mem_count.mpr ⟨rfl, h2⟩
      exact (mem_count.mp this).1
  · have : ((i : Int), heardSlot z (slotAt sc1 v1 i)) ∈ oneCount (sc2.map (heardSlot z)) v2 := by rw [← h]; exact mem_count.mpr ⟨rfl, h1⟩
    exact (mem_count.mp this).1.symm
def scOf (c : Car) (e : Ent) : Score := if e.t = -1 then [] else c.scores.getD e.t.toNat []
def vOf (e : Ent) : Nat := if e.t = -1 then 0 else e.v.toNat
theorem hour_count (c : Car) (z : Str) (e : Ent) : hourL c z e = oneCount ((scOf c e).map (heardSlot z)) (vOf e) := by
  unfold hourL scOf vOf
  by_cases h : e.t = -1
  · rw [if_pos h, if_pos h, if_pos h, oneCount_eq]; rfl
  · rw [if_neg h, if_neg h, if_neg h, oneCount_eq]
theorem hour_iff {c1 c2 : Car} {z : Str} {e1 e2 : Ent} : hourL c1 z e1 = hourL c2 z e2 ↔ ∀ k ∈ z.cps.toList, hourL c1 (sg k) e1 = hourL c2 (sg k) e2 := by
  simp only [hour_count, count_iff, heardSlot_iff]
  constructor
  · intro h k hk i j hj
    have hj : j = k := by simpa using hj
    subst hj
    exact h i j hk
  · intro h i k hk
    exact h k hk i k (by simp)
/-! ### two carillons, run side by side -/
def entC (c : Car) (a k : Nat) : Ent := (c.chg.states.getD a []).getD k ⟨0, -1, 0⟩
def TellsC (c1 c2 : Car) (z : Str) : Nat → Nat → List Nat → Prop
  | _, _, [] => False
  | a, b, [k] => hourL c1 z (entC c1 a k) ≠ hourL c2 z (entC c2 b k)
  | a, b, k :: l :: w => TellsC c1 c2 z (entC c1 a k).f.toNat (entC c2 b k).f.toNat (l :: w)
theorem tellsC_swap (c1 c2 : Car) (z : Str) : ∀ (x : List Nat) (a b : Nat), TellsC c1 c2 z a b x ↔ TellsC c2 c1 z b a x
  | [], _, _ => Iff.rfl
  | [k], a, b => ne_comm
  | k :: l :: w, a, b => tellsC_swap c1 c2 z (l :: w) _ _
theorem tellsC_self (c : Car) (z : Str) : ∀ (x : List Nat) (a : Nat), ¬ TellsC c c z a a x
  | [], _ => id
  | [k], a => fun h => h rfl
  | k :: l :: w, a => tellsC_self c z (l :: w) _
theorem tellsC_iff (c1 c2 : Car) (z : Str) : ∀ (x : List Nat) (a b : Nat), TellsC c1 c2 z a b x ↔ ∃ k ∈ z.cps.toList, TellsC c1 c2 (sg k) a b x
  | [], _, _ => ⟨fun h => h.elim, fun ⟨_, _, h⟩ => h⟩
  | [k], a, b => by
    show ¬ _ ↔ ∃ j ∈ _, ¬ _
    rw [hour_iff]
    exact ⟨fun h => Classical.byContradiction fun q => h fun j hj => Classical.byContradiction fun r => q ⟨j, hj, r⟩, fun ⟨j, hj, h⟩ q => h (q j hj)⟩
  | k :: l :: w, a, b => tellsC_iff c1 c2 z (l :: w) _ _
section
variable {c1 c2 : Car} {z : Str}
theorem joint_get (h1 : GoodCar c1) {a : Nat} (ha : a < c1.chg.states.length) : rowAt (jointL c1 c2 z) a = rowL c1 z (c1.chg.states.getD a []) := by
  unfold rowAt jointL rowsL
  rw [List.getD_eq_getElem?_getD, List.getElem?_append_left (by simpa using ha), List.getElem?_map, List.getElem?_eq_getElem ha, List.getD_eq_getElem?_getD, List.getElem?_eq_getElem ha]
  rfl
theorem joint_get2 {b : Nat} (hb : b < c2.chg.states.length) : rowAt (jointL c1 c2 z) (c1.chg.states.length + b) = shiftR c1.chg.states.length (rowL c2 z (c2.chg.states.getD b [])) := by
  unfold rowAt jointL
  rw [List.getD_eq_getElem?_getD, List.getElem?_append_right (by rw [rowsL_len]; omega), rowsL_len, Nat.add_sub_cancel_left, List.getElem?_map]
  unfold rowsL
  rw [List.getElem?_map, List.getElem?_eq_getElem hb, List.getD_eq_getElem?_getD, List.getElem?_eq_getElem hb]
  rfl
theorem stateG (h : GoodCar c1) {a : Nat} (ha : a < c1.chg.states.length) : c1.chg.states.getD a [] ∈ c1.chg.states := by
  rw [List.getD_eq_getElem?_getD, List.getElem?_eq_getElem ha]; exact List.getElem_mem ha
theorem entG (h : GoodCar c1) {a k : Nat} (ha : a < c1.chg.states.length) (hk : k < c1.chg.letters.cps.toList.length) : entC c1 a k ∈ c1.chg.states.getD a [] := by
  unfold entC
  have : k < (c1.chg.states.getD a []).length := by rw [h.row _ (stateG h ha)]; exact hk
  rw [List.getD_eq_getElem?_getD (l := c1.chg.states.getD a []), List.getElem?_eq_getElem this]; exact List.getElem_mem this
theorem getD_map {α β : Type} (f : α → β) (l : List α) (k : Nat) (d : α) (d' : β) (h : k < l.length) : (l.map f).getD k d' = f (l.getD k d) := by
  rw [List.getD_eq_getElem?_getD, List.getElem?_map, List.getD_eq_getElem?_getD, List.getElem?_eq_getElem h]; rfl
theorem joint_lo (h1 : GoodCar c1) {a k : Nat} (ha : a < c1.chg.states.length) (hk : k < c1.chg.letters.cps.toList.length) : (rowAt (jointL c1 c2 z) a).getD k ([], 0) = (hourL c1 z (entC c1 a k), (entC c1 a k).f) := by
  have hl : k < (c1.chg.states.getD a []).length := by rw [h1.row _ (stateG h1 ha)]; exact hk
  rw [joint_get h1 ha]
  unfold rowL entC
  rw [getD_map _ _ _ ⟨0, -1, 0⟩ _ hl]
theorem joint_hi (h2 : GoodCar c2) {b k : Nat} (hb : b < c2.chg.states.length) (hk : k < c2.chg.letters.cps.toList.length) : (rowAt (jointL c1 c2 z) (c1.chg.states.length + b)).getD k ([], 0) = (hourL c2 z (entC c2 b k), (entC c2 b k).f + (c1.chg.states.length : Nat)) := by
  have hl : k < (c2.chg.states.getD b []).length := by rw [h2.row _ (stateG h2 hb)]; exact hk
  rw [joint_get2 hb]
  unfold shiftR rowL entC
  rw [List.map_map, getD_map _ _ _ ⟨0, -1, 0⟩ _ hl]
  rfl
theorem tells_iff (h1 : GoodCar c1) (h2 : GoodCar c2) (hl : c1.chg.letters = c2.chg.letters) : ∀ (x : List Nat) (a b : Nat), a < c1.chg.states.length → b < c2.chg.states.length → (∀ k ∈ x, k < c1.chg.letters.cps.toList.length) → (Tells (jointL c1 c2 z) a (c1.chg.states.length + b) x ↔ TellsC c1 c2 z a b x)
  | [], _, _, _, _, _ => Iff.rfl
  | [k], a, b, ha, hb, hd => by
    have hk := hd k (List.mem_cons_self ..)
    unfold Tells TellsC hrdAt
    rw [joint_lo h1 ha hk, joint_hi h2 hb (hl ▸ hk)]
  | k :: l :: w, a, b, ha, hb, hd => by
    have hk := hd k (List.mem_cons_self ..)
    have g1 := (h1.ent _ (stateG h1 ha) _ (entG h1 ha hk)).1
    have g2 := (h2.ent _ (stateG h2 hb) _ (entG h2 hb (hl ▸ hk))).1
    have e1 : folAt (jointL c1 c2 z) a k = (entC c1 a k).f.toNat := by unfold folAt; rw [joint_lo h1 ha hk]
    have e2 : folAt (jointL c1 c2 z) (c1.chg.states.length + b) k = c1.chg.states.length + (entC c2 b k).f.toNat := by
      unfold folAt; rw [joint_hi h2 hb (hl ▸ hk)]
      have := g2.1
      show ((entC c2 b k).f + (c1.chg.states.length : Nat)).toNat = _
      omega
    show Tells _ (folAt _ a k) (folAt _ _ k) (l :: w) ↔ TellsC c1 c2 z _ _ (l :: w)
    rw [e1, e2]
    exact tells_iff h1 h2 hl (l :: w) _ _ (by have := g1.2.1; have := g1.1; omega) (by have := g2.2.1; have := g2.1; omega) fun j hj => hd j (List.mem_cons_of_mem _ hj)
theorem joint_apart (h1 : GoodCar c1) (h2 : GoodCar c2) (hl : c1.chg.letters = c2.chg.letters) : Apart (jointL c1 c2 z) c1.chg.states.length := by
  have a1 := h1.st
  have a2 := h2.st
  refine ⟨fun a ha h hh => ?_, fun a ha hal h hh => ?_, ⟨a1.1, a1.2⟩, by rw [jointL_len]; omega, by rw [jointL_len]; omega⟩
  · rw [joint_get h1 ha] at hh
    obtain ⟨e, he, rfl⟩ := List.mem_map.mp hh
    exact (h1.ent _ (stateG h1 ha) e he).1.2.1
  · rw [jointL_len] at hal
    obtain ⟨b, rfl⟩ : ∃ b, a = c1.chg.states.length + b := ⟨a - c1.chg.states.length, by omega⟩
    have hb : b < c2.chg.states.length := by omega
    rw [joint_get2 hb] at hh
    obtain ⟨g, hg, rfl⟩ := List.mem_map.mp hh
    obtain ⟨e, he, rfl⟩ := List.mem_map.mp hg
    have := (h2.ent _ (stateG h2 hb) e he).1.1
    show (c1.chg.states.length : Int) ≤ e.f + (c1.chg.states.length : Nat)
    omega
theorem firstDiff_one {α : Type} {xs ys : List α} {n m : Nat} (h : FirstDiff xs ys n) (q : FirstDiff xs ys m) : n = m := by
  rcases Nat.lt_trichotomy n m with r | r | r
  · exact absurd (q.1 n r) h.2.2.2
  · exact r
  · exact absurd (h.1 m r) q.2.2.2
theorem wordOf_one {rows : HRows} {r a b : Nat} {w : List Nat} (h : WordOf rows r a b w) : ∀ {w' : List Nat}, WordOf rows r a b w' → w = w' := by
  induction h with
  | zero f => intro w' q; cases q with | zero f' => rw [firstDiff_one f f']
  | succ f _ ih => intro w' q; cases q with
    | succ f' q' =>
      obtain rfl := firstDiff_one f f'
      rw [ih q']
theorem parts_one {rows : HRows} {m r r' a b : Nat} (h : Parts rows m r a b) (q : Parts rows m r' a b) : r = r' := by
  rcases Nat.lt_trichotomy r r' with z | z | z
  · exact absurd (q.eq r z) h.ne
  · exact z
  · exact absurd (h.eq r' z) q.ne
/-- what the search tells, and the partitions -/
theorem tell_ex (h1 : GoodCar c1) (h2 : GoodCar c2) (hl : c1.chg.letters = c2.chg.letters) (hz : En.ok z) : ∃ o, TellRes (jointL c1 c2 z) c1.chg.letters.cps.toList.length c1.chg.states.length o ∧ (o = none ↔ AlikeP c1 c2 z) ∧
    ∀ w, o = some w → ∀ m r w', Stable (jointL c1 c2 z) m → Parts (jointL c1 c2 z) m r 0 c1.chg.states.length → WordOf (jointL c1 c2 z) r 0 c1.chg.states.length w' → w' = w := by
  have hw := joint_wf h1 h2 hl hz
  have hr := joint_rowlen (z := z) h1 h2 hl
  have hlen := jointL_len c1 c2 z
  have a1 := h1.st
  have a2 := h2.st
  obtain ⟨m, hm⟩ := stable_ex (rows := jointL c1 c2 z) (by omega)
  by_cases he : nth (partK (jointL c1 c2 z) m) 0 = nth (partK (jointL c1 c2 z) m) c1.chg.states.length
  · exact ⟨none, fun x hd => stable_tells hw hr hm (by omega) (by omega) he x hd, ⟨fun _ => ⟨m, hm, he⟩, fun _ => rfl⟩, fun w e => by cases e⟩
  · obtain ⟨r, hp⟩ := parts_ex he
    obtain ⟨w, hwo⟩ := word_ex hw hr r 0 c1.chg.states.length (by omega) (by omega) hp.ne hp.eq
    refine ⟨some w, wordOf_min hw hr hwo (by omega) (by omega) hp.eq, ⟨fun z => (by cases z), fun ⟨m', hm', q⟩ => absurd (by rw [stable_one hm hm']; exact q) he⟩, fun w2 e m' r' w' hm' hp' hwo' => ?_⟩
    injection e with e
    subst e
    obtain rfl := stable_one hm hm'
    obtain rfl := parts_one hp hp'
    exact (wordOf_one hwo hwo').symm
theorem alikeP_iff (h1 : GoodCar c1) (h2 : GoodCar c2) (hl : c1.chg.letters = c2.chg.letters) (hz : En.ok z) : AlikeP c1 c2 z ↔ ∀ x, (∀ k ∈ x, k < c1.chg.letters.cps.toList.length) → ¬ TellsC c1 c2 z 0 0 x := by
  obtain ⟨o, ho, hn, _⟩ := tell_ex h1 h2 hl hz
  have a1 := h1.st
  have a2 := h2.st
  rw [← hn]
  constructor
  · rintro rfl x hd hT
    exact ho x hd ((tells_iff h1 h2 hl x 0 0 (by omega) (by omega) hd).mpr hT)
  · intro h
    cases o with
    | none => rfl
    | some w =>
      have hM : MinTell _ _ _ _ w := ho
      exact absurd ((tells_iff h1 h2 hl w 0 0 (by omega) (by omega) hM.dig).mp hM.tells) (h w hM.dig)
theorem alikeP_swap (h1 : GoodCar c1) (h2 : GoodCar c2) (hl : c1.chg.letters = c2.chg.letters) (hz : En.ok z) : AlikeP c1 c2 z ↔ AlikeP c2 c1 z := by
  rw [alikeP_iff h1 h2 hl hz, alikeP_iff h2 h1 hl.symm hz, hl]
  constructor
  · intro h x hd hT; exact h x hd ((tellsC_swap c2 c1 z x 0 0).mp hT)
  · intro h x hd hT; exact h x hd ((tellsC_swap c1 c2 z x 0 0).mp hT)
theorem alikeP_self (h1 : GoodCar c1) (hz : En.ok z) : AlikeP c1 c1 z := (alikeP_iff h1 h1 rfl hz).mpr fun x _ => tellsC_self c1 z x 0
theorem alikeP_all (h1 : GoodCar c1) (h2 : GoodCar c2) (hl : c1.chg.letters = c2.chg.letters) (hz : En.ok z) (hb : okB z = true) : AlikeP c1 c2 z ↔ ∀ k ∈ z.cps.toList, AlikeP c1 c2 (sg k) := by
  rw [alikeP_iff h1 h2 hl hz]
  constructor
  · intro h k hk
    rw [alikeP_iff h1 h2 hl (okB_sg (okB_mem hb hk)).2]
    exact fun x hd hT => h x hd ((tellsC_iff c1 c2 z x 0 0).mpr ⟨k, hk, hT⟩)
  · intro h x hd hT
    obtain ⟨k, hk, hT⟩ := (tellsC_iff c1 c2 z x 0 0).mp hT
    exact (alikeP_iff h1 h2 hl (okB_sg (okB_mem hb hk)).2).mp (h k hk) x hd hT
end
end TL
set_option Elab.async false
set_option linter.all false
set_option maxRecDepth 100000
/-! VS15: the law. -/
namespace TL
open PySem PySem.Spec PyProof.Rows L2
theorem checked_ok {G : Type} {c1 c2 : Car} {z : Str} {P : Prop} {g : G} {E : G → Str → List Str → List D → Prop} (h0 : okB z = true) (h1 : c1.chg.letters = c2.chg.letters) (h2 : c1.size = c2.size) (p : P) : Checked c1 c2 z P g E := by
  unfold Checked
  rw [if_pos h0, if_pos (decide_eq_true h1), if_pos (decide_eq_true h2)]
  exact p
theorem checked_cases (c1 c2 : Car) (z : Str) : (okB z = true ∧ c1.chg.letters = c2.chg.letters ∧ c1.size = c2.size) ∨ ∃ (cn x : Str) (ns : List Str), (x = z ∨ x = "letters" ∨ x = "size") ∧ (cn = "BadBells" ∨ cn = "Unlike") ∧ ∀ {G : Type} (P : Prop) (g : G) (E : G → Str → List Str → List D → Prop), E g cn ns [.str x] → Checked c1 c2 z P g E := by
  by_cases h0 : okB z = true
  · by_cases h1 : c1.chg.letters = c2.chg.letters
    · by_cases h2 : c1.size = c2.size
      · exact .inl ⟨h0, h1, h2⟩
      · exact .inr ⟨"Unlike", "size", ["field"], .inr (.inr rfl), .inr rfl, fun P g E e => by unfold Checked; rw [if_pos h0, if_pos (decide_eq_true h1), if_neg (by rw [decide_eq_false h2]; exact Bool.false_ne_true)]; exact e⟩
    · exact .inr ⟨"Unlike", "letters", ["field"], .inr (.inl rfl), .inr rfl, fun P g E e => by unfold Checked; rw [if_pos h0, if_neg (by rw [decide_eq_false h1]; exact Bool.false_ne_true)]; exact e⟩
  · exact .inr ⟨"BadBells", z, ["text"], .inl rfl, .inl rfl, fun P g E e => by unfold Checked; rw [if_neg h0]; exact e⟩
theorem abcdef_ok : ∀ k ∈ ("abcdef" : Str).cps.toList, k < 0x110000 := by decide +kernel
theorem bells_ok {z : Str} (h : GoodBells z) : En.ok z ∧ okB z = true ∧ z.cps.size ≤ 6 := by
  obtain ⟨ks, hs, rfl⟩ := h
  have hnd : ("abcdef" : Str).cps.toList.Pairwise (· < ·) := by decide +kernel
  refine ⟨S_ok fun k hk => abcdef_ok k (hs.subset hk), decide_eq_true ?_, ?_⟩
  · refine congrArg SX.S (sorted_eq ks _ (hnd.sublist hs) (List.Pairwise.filter _ hnd) fun k => ?_)
    rw [List.mem_filter, decide_eq_true_iff]
    exact ⟨fun h => ⟨hs.subset h, h⟩, fun h => h.2⟩
  · have := hs.length_le
    show (SX.S ks).cps.size ≤ 6
    have e : (SX.S ks).cps.size = ks.length := by simp [SX.S]
    rw [e]
    exact Nat.le_trans this (by decide)
theorem abcdef_good : GoodBells "abcdef" := ⟨_, List.Sublist.refl _, (SX.S_tl _).symm⟩
theorem a_bells : GoodBells "a" := ⟨("a" : Str).cps.toList, by decide +kernel, (SX.S_tl _).symm⟩
theorem nil_bells : GoodBells "" := ⟨[], List.nil_sublist _, by decide +kernel⟩
theorem filt_bells {p : Nat → Bool} : GoodBells (SX.S (("abcdef" : Str).cps.toList.filter p)) := ⟨_, List.filter_sublist, rfl⟩
theorem sfx_ok : ∀ x ∈ ([("a" : Str), "g", "A", " ", "f"] : List Str), PyData.strOk x = true ∧ x.cps.size = 1 := by decide +kernel
theorem str_app (x y : Str) : x ++ y = SX.S (x.cps.toList ++ y.cps.toList) := by
  rw [← SX.S_tl x, ← SX.S_tl y]
  exact SX.S_cat _ _
theorem app_ok {x y : Str} (hx : En.ok x) (hy : PyData.strOk y = true) : En.ok (x ++ y) := by
  rw [str_app]
  refine S_ok fun k hk => ?_
  rcases List.mem_append.mp hk with hk | hk
  · exact mem_ok hx k hk
  · exact mem_ok (z := y) hy k hk
theorem app_size (x y : Str) : (x ++ y).cps.size = x.cps.size + y.cps.size := by
  rw [str_app]; simp [SX.S]
end TL
set_option Elab.async false
set_option linter.all false
set_option maxRecDepth 100000
/-! VS16: the law, behind its store. -/
namespace TL
open PySem PySem.Spec PyProof.Rows L2
theorem five_big : 5 ≤ sizeLine := Nat.le_trans (Nat.le_of_ble_eq_true rfl : 5 ≤ 1000000) sizeLine_big
theorem dok2 {x y : D} (hx : FlatOk x) (hy : FlatOk y) : dOk 1 (.tup [x, y]) := .inr ⟨_, rfl, Nat.le_of_ble_eq_true rfl, fun u hu => by
  rcases List.mem_cons.mp hu with rfl | hu
  · exact hx
  · rw [List.mem_singleton.mp hu]; exact hy⟩
theorem dok3 {x y z : D} (hx : FlatOk x) (hy : FlatOk y) (hz : FlatOk z) : dOk 1 (.tup [x, y, z]) := .inr ⟨_, rfl, Nat.le_of_ble_eq_true rfl, fun u hu => by
  rcases List.mem_cons.mp hu with rfl | hu
  · exact hx
  rcases List.mem_cons.mp hu with rfl | hu
  · exact hy
  · rw [List.mem_singleton.mp hu]; exact hz⟩
theorem TR_f {c1 c2 : Car} {z : Str} {Q : D → Prop} (h : ∀ p : Nat → Bool, (∀ k ∈ z.cps.toList, p k = true ↔ AlikeP c1 c2 (sg k)) → Q (.tup [.bl true, .str (SX.S (z.cps.toList.filter p))])) : TR c1 c2 z false Q := by
  unfold TR; rw [if_neg Bool.false_ne_true]; exact h
theorem TR_t {c1 c2 : Car} {z : Str} {Q : D → Prop} (h1 : AlikeP c1 c2 z → Q (.tup [.bl true, .str "alike"])) (h0 : ¬ AlikeP c1 c2 z → Q (.tup [.bl true, .str "apart"])) : TR c1 c2 z true Q := by
  unfold TR; rw [if_pos rfl]; exact ⟨h1, h0⟩
theorem lit_ok : PyData.strOk ("bells" : Str) = true ∧ PyData.strOk ("unlike" : Str) = true ∧ PyData.strOk ("letters" : Str) = true ∧ PyData.strOk ("size" : Str) = true ∧ PyData.strOk ("alike" : Str) = true ∧ PyData.strOk ("apart" : Str) = true ∧ PyData.strOk ("" : Str) = true := by decide +kernel
theorem goodB_sg {k : Nat} (h : k ∈ ("abcdef" : Str).cps.toList) : GoodB (sg k) := ⟨(okB_sg h).2, (okB_sg h).1, by show 1 ≤ 1000; decide⟩
theorem setC {G : Type} {i : Nat} {d : D} {u : TTS G} {TD : TEnds G} {ex : TX G} {ρ : Rho} {g : G} (h : u TD ex (ρ.set i (some d)) g) : tSeqT (tSetT i (tCon d)) u TD ex ρ g := h
theorem nextC {G : Type} {TD : TEnds G} {ex : TX G} {ρ : Rho} {g : G} (h : TD.nx ρ g) : tNextT TD ex ρ g := h
theorem forCS {G : Type} {z : Str} {gt : TTG} {tb u : TTS G} {TD : TEnds G} {ex : TX G} {ρ : Rho} {g : G} (h : forL gt tb { TD with nx := u TD ex } ex (signs z) ρ g) : tSeqT (tForT (tItT (tCon (.str z))) gt tb) u TD ex ρ g := h
theorem v_law_rest (b : B) (g : b.G) (a : Addr) (hs : StoreOk b g a) (Q : D → b.G → Prop) (X : b.G → Str → List Str → List D → Prop) (h : ∀ g', Q (.bl true) g') :
    t_law_rest (b := b) SP__law_two SP__law_bells_in SP__law_pick SP__law_take SP__law_make_carillon SP__law_fault SP__law_told (SPA 2) SP__law_joint SP__law_telling SP_alike { nx := fun _ g => Q .non g, rt := Q } (fun _ => X) [none, some (.hnd a), none, none, none, none, none, none, none, none, none, none, none] g := by
  have hb := sizeLine_big
  obtain ⟨l1, l2, l3, l4, l5, l6, l7⟩ := lit_ok
  refine ⟨_, rfl, a, rfl, hs, fun c1 c2 g1 hc1 hc2 hs1 => ?_⟩
  refine ⟨_, rfl, rfl, _, _, rfl, _, _, rfl, rfl, ?_⟩
  have k1 := hc1.car
  have k2 := hc2.car
  refine ⟨_, rfl, _, rfl, a, rfl, hs1, fun z1 g2 hz1 hs2 => ⟨_, rfl, a, rfl, hs2, fun z2 g3 hz2 hs3 => ⟨five_big, a, _, rfl, ⟨Nat.le_of_ble_eq_true rfl, Nat.le_of_ble_eq_true rfl, hs3, fun d hd => ?_⟩, fun d g4 hd hs4 => ?_⟩⟩⟩
  · simp at hd
    rcases hd with rfl | rfl | rfl | rfl | rfl <;> rfl
  obtain ⟨z0, hz0, rfl⟩ : ∃ z0, GoodBells z0 ∧ d = .str z0 := by
    simp at hd
    rcases hd with rfl | rfl | rfl | rfl | rfl
    · exact ⟨_, hz1, rfl⟩
    · exact ⟨_, abcdef_good, rfl⟩
    · exact ⟨_, hz2, rfl⟩
    · exact ⟨_, a_bells, rfl⟩
    · exact ⟨_, abcdef_good, rfl⟩
  have hz0 := bells_ok hz0
  dsimp only
  refine seqJ (fun ρ g' => StoreOk b g' a ∧ ∃ z : Str, (En.ok z ∧ z.cps.size ≤ 7) ∧ ρ = [none, some (.hnd a), some c1.tp, some c2.tp, some (.str z), none, none, none, none, none, none, none, none]) (fun K hK => ?_) (fun ρ g5 ⟨hs5, z, ⟨hz, hzn⟩, eρ⟩ => ?_)
  · refine ⟨_, rfl, a, 8, rfl, ⟨by decide, hs4⟩, fun r g5 hs5 _ _ => ?_⟩
    dsimp only [tCon]
    refine oEq_en r 0 trivial trivial (by decide) ⟨_, rfl, ifB (fun _ => ?_) fun _ => hK _ _ ⟨hs5, z0, ⟨hz0.1, by omega⟩, rfl⟩⟩
    refine ⟨_, rfl, _, rfl, five_big, a, ([("a" : Str), "g", "A", " ", "f"] : List Str).map D.str, rfl, ⟨Nat.le_of_ble_eq_true rfl, Nat.le_of_ble_eq_true rfl, hs5, fun d hd => ?_⟩, fun d g6 hd hs6 => ?_⟩
    · obtain ⟨w, _, rfl⟩ := List.mem_map.mp hd; rfl
    · obtain ⟨w, hw, rfl⟩ := List.mem_map.mp hd
      have hw := sfx_ok w hw
      have e : ∀ y : Str, y.length = y.cps.size := fun y => rfl
      refine ⟨by rw [e, e]; omega, hK _ _ ⟨hs6, z0 ++ w, ⟨app_ok hz0.1 hw.1, by rw [app_size]; omega⟩, rfl⟩⟩
  · subst eρ
    refine ⟨_, rfl, rfl, _, rfl, rfl, two_big, two_big, ?_⟩
    obtain ⟨l, hl⟩ : ∃ l, l = [c1, c2] := ⟨_, rfl⟩
    rw [show [c1.tp, c2.tp] = l.map Car.tp by rw [hl]; rfl]
    refine lcL_inv Car.tp (fun rest acc g' => StoreOk b g' a ∧ (∀ c ∈ rest, Chm c) ∧ ∃ dn : List Car, acc = dn.map Car.d ∧ dn ++ rest = [c1, c2]) _ _ _ (fun c rest acc g6 K1 K0 ⟨hs6, hch, dn, e1, e2⟩ h1 h0 => ?_) (fun acc g6 ⟨hs6, _, dn, e1, e2⟩ => ?_) ⟨hs5, fun c hc => ?_, [], rfl, hl⟩
    · have hc := hch c (List.mem_cons_self ..)
      refine if1 (q := K0 g6) rfl ⟨_, rfl, _, rfl, .str c.chg.letters, rfl, _, rfl, En.d c.chg.states, rfl, _, rfl, En.d c.scores, rfl, a, c, rfl, ⟨hs6, hc.chg, hc.sc, fun r hr e he => (hc.car.ent r hr e he).2⟩, fun g7 hs7 => h1 _ _ ⟨hs7, fun c hc => hch c (List.mem_cons_of_mem _ hc), dn ++ [c], by rw [e1, List.map_append]; rfl, by rw [← e2]; simp⟩⟩
    · rw [List.append_nil] at e2
      subst e2
      subst e1
      have fok : FaultOk c1 c2 z := ⟨hz, by omega, k1.ok, k2.ok, k1.sc.1, k2.sc.1⟩
      refine ⟨_, rfl, _, rfl, _, rfl, c1, c2, z, rfl, fok, ?_⟩
      rcases checked_cases c1 c2 z with ⟨h0, h1, h2⟩ | ⟨cn, x, ns, hx, hcn, hall⟩
      · refine checked_ok h0 h1 h2 ⟨_, rfl, _, rfl, if0 rfl ?_⟩
        classical
        let p : Nat → Bool := fun k => decide (AlikeP c1 c2 (sg k))
        have gB : GoodB z := goodB_of h0 hz
        have hlo := k1.lt
        have rlen : ∀ {u : Str}, ∀ r ∈ jointL c1 c2 u, r.length = c1.chg.letters.cps.toList.length := fun {u} => joint_rowlen k1 k2 h1
        have hml : (c1.chg.states.map (En.d (α := List Ent))).length = c1.chg.states.length := List.length_map ..
        have hat : ∀ i : Nat, ∀ k ∈ ("abcdef" : Str).cps.toList, True := fun _ _ _ => trivial
        refine nextC ?_
        dsimp only
        refine setC (forCS ?_)
        unfold signs
        refine forL_xs (fun k => D.str (sg k)) (fun rest ρ g' => g' = g6 ∧ (∀ k ∈ rest, k ∈ ("abcdef" : Str).cps.toList) ∧ ∃ (ks : List Nat) (x9 : Option D), ρ = [none, some (.hnd a), some c1.tp, some c2.tp, some (.str z), some (.lst [c1.d, c2.d]), none, some .non, some (.str (SX.S ks)), x9, none, none, none] ∧ ks ++ rest.filter p = ("abcdef" : Str).cps.toList.filter p) _ _ _ (fun k rest ρ g7 K hK ⟨eg, hr, ks, x9, eρ, hks⟩ => ?_) (fun ρ g7 ⟨eg, _, ks, x9, eρ, hks⟩ => ?_) ⟨rfl, fun k hk => hk, [], none, ?_, rfl⟩
        · subst eg eρ
          have hk := hr k (List.mem_cons_self ..)
          have gk := goodB_sg hk
          obtain ⟨o, ho1, ho2, _⟩ := tell_ex (z := sg k) k1 k2 h1 gk.ok
          refine ⟨_, rfl, _, rfl, _, rfl, c1, c2, sg k, rfl, ⟨k1, k2, gk⟩, _, rfl, En.d c1.chg.states, rfl, _, rfl, .str c1.chg.letters, rfl, jointL c1 c2 (sg k), c1.chg.states.length, c1.chg.letters, o, by rw [hml]; rfl, ⟨⟨joint_wf k1 k2 h1 gk.ok, rlen, joint_apart k1 k2 h1⟩, hlo, ho1⟩, _, rfl, ?_⟩
          by_cases hp : AlikeP c1 c2 (sg k)
          · rw [ho2.mpr hp]
            refine if1 rfl ⟨_, rfl, _, rfl, ?_, hK _ _ ⟨rfl, fun k hk => hr k (List.mem_cons_of_mem _ hk), ks ++ [k], _, by rw [show SX.S ks ++ sg k = SX.S (ks ++ [k]) from SX.S_cat ks [k]]; rfl, ?_⟩⟩
            · rw [SX.S_len]
              have := congrArg List.length hks
              have h6 := List.length_filter_le p ("abcdef" : Str).cps.toList
              have h7 : ("abcdef" : Str).cps.toList.length = 6 := by decide +kernel
              rw [List.length_append] at this
              show ks.length + 1 ≤ _
              omega
            · rw [← hks, List.filter_cons_of_pos (p := p) (decide_eq_true hp)]; simp
          · have hno : o ≠ none := fun e => hp (ho2.mp e)
            cases o with
            | none => exact absurd rfl hno
            | some w =>
              refine if0 rfl (hK _ _ ⟨rfl, fun k hk => hr k (List.mem_cons_of_mem _ hk), ks, _, rfl, ?_⟩)
              rw [← hks, List.filter_cons_of_neg (by rw [show p k = false from decide_eq_false hp]; exact Bool.false_ne_true)]
        · subst eg eρ
          rw [List.filter_nil, List.append_nil] at hks
          subst hks
          have hT : GoodBells (SX.S (("abcdef" : Str).cps.toList.filter p)) := filt_bells
          have hTm : ∀ k, k ∈ ("abcdef" : Str).cps.toList → (decide (k ∈ (SX.S (("abcdef" : Str).cps.toList.filter p)).cps.toList) = p k) := fun k hk => by
            have : k ∈ (SX.S (("abcdef" : Str).cps.toList.filter p)).cps.toList ↔ p k = true := by
              show k ∈ ("abcdef" : Str).cps.toList.filter p ↔ _
              rw [List.mem_filter]; exact ⟨fun z => z.2, fun z => ⟨hk, z⟩⟩
            rw [Bool.eq_iff_iff, decide_eq_true_iff]; exact this
          generalize SX.S (("abcdef" : Str).cps.toList.filter p) = T at hT hTm
          refine ⟨_, rfl, rfl, _, rfl, a, rfl, hs6, fun y1 g8 hy1 hs8 => ⟨_, rfl, rfl, _, rfl, a, rfl, hs8, fun y2 g9 hy2 hs9 => ⟨five_big, ?_⟩⟩⟩
          obtain ⟨ys, hys⟩ : ∃ ys : List Str, ys = [z, "", y1, T, y2] := ⟨_, rfl⟩
          rw [show [D.str z, D.str "", D.str y1, D.str T, D.str y2] = ys.map D.str by rw [hys]; rfl]
          refine forL_xs D.str (fun rest ρ g' => g' = g9 ∧ (∀ y ∈ rest, En.ok y ∧ okB y = true) ∧ ∃ (x7 x9 x10 x11 : Option D), ρ = [none, some (.hnd a), some c1.tp, some c2.tp, some (.str z), some (.lst [c1.d, c2.d]), none, x7, some (.str T), x9, x10, x11, none]) ys _ _ (fun y rest ρ g10 K hK ⟨eg, hr, x7, x9, x10, x11, eρ⟩ => ?_) (fun ρ g10 ⟨eg, _, x7, x9, x10, x11, eρ⟩ => ?_) ⟨rfl, fun y hy => ?_, _, _, _, _, rfl⟩
          · subst eg eρ
            obtain ⟨hy, hyb⟩ := hr y (List.mem_cons_self ..)
            have hy6 := okB_len hyb
            have hmem : ∀ k ∈ y.cps.toList, k ∈ ("abcdef" : Str).cps.toList := fun k hk => okB_mem hyb hk
            have hfil : y.cps.toList.filter (fun k => decide (k ∈ T.cps.toList)) = y.cps.toList.filter p := List.filter_congr fun k hk => hTm k (hmem k hk)
            have hpk : ∀ k ∈ y.cps.toList, p k = true ↔ AlikeP c1 c2 (sg k) := fun k _ => decide_eq_true_iff
            refine ⟨"", rfl, _, rfl, by simp [signs]; simp at hy6; omega, ?_⟩
            refine lcL_signs 9 (Nat.le_of_ble_eq_true rfl) (fun k => decide (k ∈ T.cps.toList)) y (fun k hk K q => ⟨_, rfl, _, rfl, oIn_sign k T ⟨_, rfl, q⟩⟩) ?_
            rw [hfil]
            refine oJoin_signs _ (Nat.le_trans (List.length_filter_le _ _) (by omega)) ?_
            have dk : En.ok (SX.S (y.cps.toList.filter p)) := S_ok fun k hk => mem_ok hy k (List.mem_filter.mp hk).1
            have all : ∀ (p' : Nat → Bool), (∀ k ∈ y.cps.toList, p' k = true ↔ AlikeP c1 c2 (sg k)) → SX.S (y.cps.toList.filter p') = SX.S (y.cps.toList.filter p) := fun p' hp' => congrArg SX.S (List.filter_congr fun k hk => by rw [Bool.eq_iff_iff, hp' k hk, hpk k hk])
            have hdue : SX.S (y.cps.toList.filter p) = y ↔ AlikeP c1 c2 y := by
              rw [alikeP_all k1 k2 h1 hy hyb]
              constructor
              · intro e k hk
                have := congrArg (fun s : Str => s.cps.toList) e
                have e2 : y.cps.toList.filter p = y.cps.toList := this
                exact (hpk k hk).mp (List.mem_filter.mp (by rw [e2]; exact hk : k ∈ y.cps.toList.filter p)).2
              · intro e
                rw [List.filter_eq_self.mpr fun k hk => (hpk k hk).mpr (e k hk)]
            generalize hdd : SX.S (y.cps.toList.filter p) = due at dk all hdue
            refine ⟨two_big, _, rfl, rfl, two_big, _, rfl, _, rfl, c1, c2, y, false, rfl, ⟨k1, k2, hy⟩, checked_ok hyb h1 h2 (TR_f fun p' hp' => ?_)⟩
            rw [all p' hp']
            refine ⟨_, rfl, dok2 (.bl _) (.str _ dk), _, rfl, if0 rfl ?_⟩
            refine ⟨_, rfl, _, rfl, _, rfl, ?_⟩
            refine oEq_en due y dk hy (by decide) ?_
            have second : ∀ wd : Str, ((AlikeP c1 c2 y → wd = "alike") ∧ (¬ AlikeP c1 c2 y → wd = "apart")) → (oIx (.lst [.str "apart", .str "alike"]) (.int (if decide (due = y) = true then 1 else 0)) fun d => d = .str wd) → True := fun _ _ _ => trivial
            have third : (tIfT (tNotT (tTst (tCallT (SPA 2) [] (tConsT (tTupT (tConsT (tCon (.bl true)) (tConsT (tChk (tVarT 7)) tNilT))) (tConsT (tCallT SP__law_told [] (tConsT (tRevT (tVarT 5)) (tConsT (tVarT 10) (tConsT (tCon (.bl false)) tNilT)))) tNilT))))) (tRetT (tCon (.bl false))) tNextT) { nx := K, rt := Q, ct := K, bk := fun _ _ => False } (fun _ => X) [none, some (.hnd a), some c1.tp, some c2.tp, some (.str z), some (.lst [c1.d, c2.d]), none, some (.str due), some (.str T), x9, some (.str y), some (.lst [.str "apart", .str "alike"]), none] g10 := by
              refine ⟨_, rfl, rfl, two_big, _, rfl, _, rfl, _, rfl, c2, c1, y, false, rfl, ⟨k2, k1, hy⟩, checked_ok hyb h1.symm h2.symm (TR_f fun p' hp' => ?_)⟩
              rw [all p' fun k hk => (hp' k hk).trans (alikeP_swap k2 k1 h1.symm (goodB_sg (hmem k hk)).ok)]
              exact ⟨_, rfl, dok2 (.bl _) (.str _ dk), _, rfl, if0 rfl (hK _ _ ⟨rfl, fun y hy => hr y (List.mem_cons_of_mem _ hy), _, _, _, _, rfl⟩)⟩
            by_cases hdy : due = y
            · have hal := hdue.mp hdy
              rw [decide_eq_true hdy]
              refine ⟨.str "alike", rfl, two_big, _, rfl, _, rfl, c1, c2, y, true, rfl, ⟨k1, k2, hy⟩, checked_ok hyb h1 h2 (TR_t (fun _ => ?_) fun q => absurd hal q)⟩
              exact ⟨_, rfl, dok2 (.bl _) (.str _ l5), _, rfl, if0 rfl third⟩
            · have hal := fun q => hdy (hdue.mpr q)
              rw [decide_eq_false hdy]
              refine ⟨.str "apart", rfl, two_big, _, rfl, _, rfl, c1, c2, y, true, rfl, ⟨k1, k2, hy⟩, checked_ok hyb h1 h2 (TR_t (fun q => absurd q hal) fun _ => ?_)⟩
              exact ⟨_, rfl, dok2 (.bl _) (.str _ l6), _, rfl, if0 rfl third⟩
          · subst eg eρ
            obtain ⟨o, ho1, ho2, ho3⟩ := tell_ex (z := z) k1 k2 h1 hz
            refine ⟨_, rfl, _, rfl, _, rfl, c1, c2, z, rfl, ⟨k1, k2, gB⟩, _, rfl, En.d c1.chg.states, rfl, _, rfl, .str c1.chg.letters, rfl, jointL c1 c2 z, c1.chg.states.length, c1.chg.letters, o, by rw [hml]; rfl, ⟨⟨joint_wf k1 k2 h1 hz, rlen, joint_apart k1 k2 h1⟩, hlo, ho1⟩, ?_⟩
            have last : (tRetT (tCallT (SPA 2) [] (tConsT (tTupT (tConsT (tCon (.bl true)) (tConsT (tChk (tVarT 4)) tNilT))) (tConsT (tCallT SP__law_told [] (tConsT (tLstT (tConsT (tOpT oIx (tVarT 5) (tCon (.int 0))) (tConsT (tOpT oIx (tVarT 5) (tCon (.int 0))) tNilT))) (tConsT (tVarT 4) (tConsT (tCon (.bl false)) tNilT)))) tNilT)))) { nx := fun _ g => Q .non g, rt := Q } (fun _ => X) [none, some (.hnd a), some c1.tp, some c2.tp, some (.str z), some (.lst [c1.d, c2.d]), none, x7, some (.str T), x9, x10, x11, some (resD c1.chg.letters o)] g10 := by
              refine ⟨_, rfl, rfl, two_big, _, rfl, c1.d, rfl, _, rfl, c1.d, rfl, two_big, _, rfl, c1, c1, z, false, rfl, ⟨k1, k1, hz⟩, checked_ok h0 rfl rfl (TR_f fun p' hp' => ?_)⟩
              rw [List.filter_eq_self.mpr fun k hk => (hp' k hk).mpr (alikeP_self k1 (okB_sg (okB_mem h0 hk)).2), SX.S_tl]
              exact ⟨_, rfl, dok2 (.bl _) (.str _ hz), h _⟩
            refine ⟨_, rfl, _, rfl, ?_⟩
            cases o with
            | none => exact if0 rfl (if0 rfl last)
            | some w =>
              refine if1 rfl ⟨_, rfl, rfl, two_big, _, rfl, c1.d, rfl, _, rfl, c2.d, rfl, _, rfl, c1, c2, z, rfl, ⟨k1, k2, hz⟩, checked_ok h0 h1 h2 ⟨fun m hm he => ?_, fun m r w' hm hp hwo => ?_⟩⟩
              · exact absurd (ho2.mpr ⟨m, hm, he⟩) (by intro z; cases z)
              · rw [ho3 w rfl m r w' hm hp hwo]
                have wok : En.ok (wordS c1.chg.letters w) := S_ok fun k hk => by
                  obtain ⟨j, hj, rfl⟩ := List.mem_map.mp hk
                  have hM : MinTell _ _ _ _ w := ho1
                  have hj := hM.dig j hj
                  rw [List.getD_eq_getElem?_getD, List.getElem?_eq_getElem hj]
                  exact mem_ok k1.ok _ (List.getElem_mem hj)
                exact ⟨_, rfl, dok2 (.str _ l6) (.str _ wok), _, rfl, if0 rfl last⟩
          · rw [hys] at hy
            simp at hy
            rcases hy with rfl | rfl | rfl | rfl | rfl
            · exact ⟨hz, h0⟩
            · exact ⟨(bells_ok nil_bells).1, (bells_ok nil_bells).2.1⟩
            · exact ⟨(bells_ok hy1).1, (bells_ok hy1).2.1⟩
            · exact ⟨(bells_ok hT).1, (bells_ok hT).2.1⟩
            · exact ⟨(bells_ok hy2).1, (bells_ok hy2).2.1⟩
        · have e : SX.S [] = ("" : Str) := by decide +kernel
          rw [e]
          rfl
      · have xok : En.ok x := by
          rcases hx with rfl | rfl | rfl
          · exact hz
          · exact l3
          · exact l4
        refine hall _ _ _ ?_
        dsimp only
        rcases hcn with rfl | rfl
        · rw [faultD_b]
          refine ⟨_, rfl, _, rfl, if1 rfl ⟨_, rfl, _, rfl, _, rfl, c1, c2, z, false, rfl, ⟨k1, k2, hz⟩, hall _ _ _ ?_⟩⟩
          dsimp only
          rw [faultD_b]
          refine ⟨_, rfl, dok3 (.bl _) (.str _ l1) (.str _ xok), _, rfl, if1 rfl ⟨_, rfl, _, rfl, _, rfl, c1, c2, z, true, rfl, ⟨k1, k2, hz⟩, hall _ _ _ ?_⟩⟩
          dsimp only
          rw [faultD_b]
          exact ⟨_, rfl, dok3 (.bl _) (.str _ l1) (.str _ xok), h _⟩
        · rw [faultD_u]
          refine ⟨_, rfl, _, rfl, if1 rfl ⟨_, rfl, _, rfl, _, rfl, c1, c2, z, false, rfl, ⟨k1, k2, hz⟩, hall _ _ _ ?_⟩⟩
          dsimp only
          rw [faultD_u]
          refine ⟨_, rfl, dok3 (.bl _) (.str _ l2) (.str _ xok), _, rfl, if1 rfl ⟨_, rfl, _, rfl, _, rfl, c1, c2, z, true, rfl, ⟨k1, k2, hz⟩, hall _ _ _ ?_⟩⟩
          dsimp only
          rw [faultD_u]
          exact ⟨_, rfl, dok3 (.bl _) (.str _ l2) (.str _ xok), h _⟩
    · rw [hl] at hc
      rcases List.mem_cons.mp hc with rfl | hc
      · exact hc1
      · rw [List.mem_singleton.mp hc]; exact hc2
end TL
set_option Elab.async false
set_option linter.all false
set_option maxRecDepth 100000
set_option maxHeartbeats 4000000
namespace TL
open PySem PySem.Spec PyProof.Rows L2
def top (i : Nat) : Stmt := PySem.Challenge.pw_drumturns_k83_bells_that_are_alike.main.body.getD i (.Pass ⟨0, 0, 0, 0⟩)
section
variable {P : Program} {w : World} {K : PySem.W.Frag} {mg : Str → Option Value} {base : Heap} {f : Addr}
theorem sc_BadSize_init : FnScope ["self", "size"] ["self", "size"] (defScope (inClass (top 3) 0)) := ⟨rfl, rfl, rfl, by decide +kernel, rfl, by decide +kernel, by decide +kernel⟩
theorem p_BadSize_init (f_BadSize_size : FieldOk K "BadSize" "size") (cdv : Value) (A : Around) (outer : List Env) (s : Shared) (H : Hp) (E : XK) (b : B) (N0 : Addr → Prop) (y : Addr) (hK : b.K = K) (hn0 : ∀ a, N0 a → H a ≠ none) (hr : Room 0 (A.deeper (envOfC "BadSize.__init__" (defScope (inClass (top 3) 0)) s.heap.objs.size f cdv))) : PSst (mkI b N0 [0] H y) (cxOf (L2.CX P w) P w K mg base ["self", "size"] "BadSize.__init__" (defScope (inClass (top 3) 0)) f cdv A outer s H E) (defBody (inClass (top 3) 0)) (t_BadSize_init ) := by
  have nd := sc_BadSize_init.nd
  exact ss_one (st_setf 0 ["BadSize"] (fo1 hK f_BadSize_size) ((et_var 1).chk.tor))
theorem sc_BadScore_init : FnScope ["self", "place"] ["self", "place"] (defScope (inClass (top 4) 0)) := ⟨rfl, rfl, rfl, by decide +kernel, rfl, by decide +kernel, by decide +kernel⟩
theorem p_BadScore_init (f_BadScore_place : FieldOk K "BadScore" "place") (cdv : Value) (A : Around) (outer : List Env) (s : Shared) (H : Hp) (E : XK) (b : B) (N0 : Addr → Prop) (y : Addr) (hK : b.K = K) (hn0 : ∀ a, N0 a → H a ≠ none) (hr : Room 0 (A.deeper (envOfC "BadScore.__init__" (defScope (inClass (top 4) 0)) s.heap.objs.size f cdv))) : PSst (mkI b N0 [0] H y) (cxOf (L2.CX P w) P w K mg base ["self", "place"] "BadScore.__init__" (defScope (inClass (top 4) 0)) f cdv A outer s H E) (defBody (inClass (top 4) 0)) (t_BadScore_init ) := by
  have nd := sc_BadScore_init.nd
  exact ss_one (st_setf 0 ["BadScore"] (fo1 hK f_BadScore_place) ((et_var 1).chk.tor))
theorem sc_Unlike_init : FnScope ["self", "field"] ["self", "field"] (defScope (inClass (top 5) 0)) := ⟨rfl, rfl, rfl, by decide +kernel, rfl, by decide +kernel, by decide +kernel⟩
theorem p_Unlike_init (f_Unlike_field : FieldOk K "Unlike" "field") (cdv : Value) (A : Around) (outer : List Env) (s : Shared) (H : Hp) (E : XK) (b : B) (N0 : Addr → Prop) (y : Addr) (hK : b.K = K) (hn0 : ∀ a, N0 a → H a ≠ none) (hr : Room 0 (A.deeper (envOfC "Unlike.__init__" (defScope (inClass (top 5) 0)) s.heap.objs.size f cdv))) : PSst (mkI b N0 [0] H y) (cxOf (L2.CX P w) P w K mg base ["self", "field"] "Unlike.__init__" (defScope (inClass (top 5) 0)) f cdv A outer s H E) (defBody (inClass (top 5) 0)) (t_Unlike_init ) := by
  have nd := sc_Unlike_init.nd
  exact ss_one (st_setf 0 ["Unlike"] (fo1 hK f_Unlike_field) ((et_var 1).chk.tor))
theorem sc_BadChanger_init : FnScope ["self", "state", "entry"] ["self", "state", "entry"] (defScope (inClass (top 6) 0)) := ⟨rfl, rfl, rfl, by decide +kernel, rfl, by decide +kernel, by decide +kernel⟩
theorem p_BadChanger_init (f_BadChanger_state : FieldOk K "BadChanger" "state") (f_BadChanger_entry : FieldOk K "BadChanger" "entry") (cdv : Value) (A : Around) (outer : List Env) (s : Shared) (H : Hp) (E : XK) (b : B) (N0 : Addr → Prop) (y : Addr) (hK : b.K = K) (hn0 : ∀ a, N0 a → H a ≠ none) (hr : Room 0 (A.deeper (envOfC "BadChanger.__init__" (defScope (inClass (top 6) 0)) s.heap.objs.size f cdv))) : PSst (mkI b N0 [0] H y) (cxOf (L2.CX P w) P w K mg base ["self", "state", "entry"] "BadChanger.__init__" (defScope (inClass (top 6) 0)) f cdv A outer s H E) (defBody (inClass (top 6) 0)) (t_BadChanger_init ) := by
  have nd := sc_BadChanger_init.nd
  exact ss_cons (st_setf 0 ["BadChanger"] (fo1 hK f_BadChanger_state) ((et_var 1).chk.tor)) (
  ss_one (st_setf 0 ["BadChanger"] (fo1 hK f_BadChanger_entry) ((et_var 2).chk.tor)))
theorem sc_BadLetter_init : FnScope ["self", "letter"] ["self", "letter"] (defScope (inClass (top 7) 0)) := ⟨rfl, rfl, rfl, by decide +kernel, rfl, by decide +kernel, by decide +kernel⟩
theorem p_BadLetter_init (f_BadLetter_letter : FieldOk K "BadLetter" "letter") (cdv : Value) (A : Around) (outer : List Env) (s : Shared) (H : Hp) (E : XK) (b : B) (N0 : Addr → Prop) (y : Addr) (hK : b.K = K) (hn0 : ∀ a, N0 a → H a ≠ none) (hr : Room 0 (A.deeper (envOfC "BadLetter.__init__" (defScope (inClass (top 7) 0)) s.heap.objs.size f cdv))) : PSst (mkI b N0 [0] H y) (cxOf (L2.CX P w) P w K mg base ["self", "letter"] "BadLetter.__init__" (defScope (inClass (top 7) 0)) f cdv A outer s H E) (defBody (inClass (top 7) 0)) (t_BadLetter_init ) := by
  have nd := sc_BadLetter_init.nd
  exact ss_one (st_setf 0 ["BadLetter"] (fo1 hK f_BadLetter_letter) ((et_var 1).chk.tor))
theorem sc_BadBells_init : FnScope ["self", "text"] ["self", "text"] (defScope (inClass (top 8) 0)) := ⟨rfl, rfl, rfl, by decide +kernel, rfl, by decide +kernel, by decide +kernel⟩
theorem p_BadBells_init (f_BadBells_text : FieldOk K "BadBells" "text") (cdv : Value) (A : Around) (outer : List Env) (s : Shared) (H : Hp) (E : XK) (b : B) (N0 : Addr → Prop) (y : Addr) (hK : b.K = K) (hn0 : ∀ a, N0 a → H a ≠ none) (hr : Room 0 (A.deeper (envOfC "BadBells.__init__" (defScope (inClass (top 8) 0)) s.heap.objs.size f cdv))) : PSst (mkI b N0 [0] H y) (cxOf (L2.CX P w) P w K mg base ["self", "text"] "BadBells.__init__" (defScope (inClass (top 8) 0)) f cdv A outer s H E) (defBody (inClass (top 8) 0)) (t_BadBells_init ) := by
  have nd := sc_BadBells_init.nd
  exact ss_one (st_setf 0 ["BadBells"] (fo1 hK f_BadBells_text) ((et_var 1).chk.tor))
theorem sc_BadCarillon_init : FnScope ["self", "field"] ["self", "field"] (defScope (inClass (top 9) 0)) := ⟨rfl, rfl, rfl, by decide +kernel, rfl, by decide +kernel, by decide +kernel⟩
theorem p_BadCarillon_init (f_BadCarillon_field : FieldOk K "BadCarillon" "field") (cdv : Value) (A : Around) (outer : List Env) (s : Shared) (H : Hp) (E : XK) (b : B) (N0 : Addr → Prop) (y : Addr) (hK : b.K = K) (hn0 : ∀ a, N0 a → H a ≠ none) (hr : Room 0 (A.deeper (envOfC "BadCarillon.__init__" (defScope (inClass (top 9) 0)) s.heap.objs.size f cdv))) : PSst (mkI b N0 [0] H y) (cxOf (L2.CX P w) P w K mg base ["self", "field"] "BadCarillon.__init__" (defScope (inClass (top 9) 0)) f cdv A outer s H E) (defBody (inClass (top 9) 0)) (t_BadCarillon_init ) := by
  have nd := sc_BadCarillon_init.nd
  exact ss_one (st_setf 0 ["BadCarillon"] (fo1 hK f_BadCarillon_field) ((et_var 1).chk.tor))
theorem sc_check_bells : FnScope ["bells", "bell"] ["bells"] (defScope (top 12)) := ⟨rfl, rfl, rfl, by decide +kernel, rfl, by decide +kernel, by decide +kernel⟩
theorem p_check_bells (g_BELLS : ∃ k, mg "BELLS" = some (.str "abcdef" k)) (x_BadBells : XD P w K mg base "BadBells" "text") (cdv : Value) (A : Around) (outer : List Env) (s : Shared) (H : Hp) (E : XK) (b : B) (N0 : Addr → Prop) (hK : b.K = K) (hn0 : ∀ a, N0 a → H a ≠ none) (hr : Room 2 (A.deeper (envOfC "check_bells" (defScope (top 12)) s.heap.objs.size f cdv))) : PSst (mkC b N0 [] H) (cxOf (L2.CX P w) P w K mg base ["bells", "bell"] "check_bells" (defScope (top 12)) f cdv A outer s H E) (defBody (top 12)) (t_check_bells ) := by
  have nd := sc_check_bells.nd
  exact ss_one (st_if (bt_cmp ot_ne (et_var 0) (et_join (et_str) (et_lc ((LcParts.mk (it_any (src_val (et_gstrE g_BELLS))) (fun _ _ _ _ _ _ _ _ => gt_name 1 (hN := nd)) (fun _ _ _ _ _ _ _ _ => tt_one (bt_cmp ot_in (et_var 1) (et_var 0) (by rfl))) (fun _ _ _ _ _ _ _ _ => (et_var 1).chk.tor) (by rfl) : LcParts _ _ [] _ _ _ _ _ (List.map (·.2) ([("bell", 1)] : List (Str × Nat))) _ _ _ _)) (hb := by kernel_rfl) (hN := nd))) (by rfl)) (ss_one (st_raiseD x_BadBells (hr.mono (by decide)) (at_cons ((et_var 0).chk.tor) (at_nil)))) (ss_nil))
theorem sc_heard_slots : FnScope ["score", "bells", "slot", "bell"] ["score", "bells"] (defScope (top 13)) := ⟨rfl, rfl, rfl, by decide +kernel, rfl, by decide +kernel, by decide +kernel⟩
theorem p_heard_slots {SP_check_bells : TSp} (d_check_bells : CalD P w K mg base 3 "check_bells" 1 SP_check_bells) (g_tuple : mg "tuple" = none) (cdv : Value) (A : Around) (outer : List Env) (s : Shared) (H : Hp) (E : XK) (b : B) (N0 : Addr → Prop) (hK : b.K = K) (hn0 : ∀ a, N0 a → H a ≠ none) (hr : Room 3 (A.deeper (envOfC "heard_slots" (defScope (top 13)) s.heap.objs.size f cdv))) : PSst (mkC b N0 [] H) (cxOf (L2.CX P w) P w K mg base ["score", "bells", "slot", "bell"] "heard_slots" (defScope (top 13)) f cdv A outer s H E) (defBody (top 13)) (t_heard_slots SP_check_bells) := by
  have nd := sc_heard_slots.nd
  exact ss_cons (st_expr (et_callD d_check_bells (hr.mono (by decide)) (at_cons (et_var 1) (at_nil)))) (
  ss_one (st_ret (et_callTy ct_tuple (by rfl) g_tuple (by decide +kernel) (at_cons ((et_lc ((LcParts.mk (it_any (src_var 0)) (fun _ _ _ _ _ _ _ _ => gt_name 2 (hN := nd)) (fun _ _ _ _ _ _ _ _ => tt_nil) (fun _ _ _ _ _ _ _ _ => (et_join (et_str) (et_lc ((LcParts.mk (it_any (src_var 1)) (fun _ _ _ _ _ _ _ _ => gt_name 3 (hN := nd)) (fun _ _ _ _ _ _ _ _ => tt_one (bt_cmp ot_in (et_var 3) (et_var 2) (by rfl))) (fun _ _ _ _ _ _ _ _ => (et_var 3).chk.tor) (by rfl) : LcParts _ _ [1] _ _ _ _ _ (List.map (·.2) ([("bell", 3)] : List (Str × Nat))) _ _ _ _)) (hb := by kernel_rfl) (hN := nd))).tor) (by rfl) : LcParts _ _ [0] _ _ _ _ _ (List.map (·.2) ([("slot", 2)] : List (Str × Nat))) _ _ _ _)) (hb := by kernel_rfl) (hN := nd)).tob) (at_nil)))))
theorem sc_heard_list : FnScope ["score", "bells", "verses", "slots", "size", "heard", "verse", "place", "slot"] ["score", "bells", "verses"] (defScope (top 14)) := ⟨rfl, rfl, rfl, by decide +kernel, rfl, by decide +kernel, by decide +kernel⟩
theorem p_heard_list {SP_heard_slots : TSp} (d_heard_slots : CalD P w K mg base 4 "heard_slots" 2 SP_heard_slots) (g_len : mg "len" = none) (g_range : mg "range" = none) (g_enumerate : mg "enumerate" = none) (g_tuple : mg "tuple" = none) (cdv : Value) (A : Around) (outer : List Env) (s : Shared) (H : Hp) (E : XK) (b : B) (N0 : Addr → Prop) (hK : b.K = K) (hn0 : ∀ a, N0 a → H a ≠ none) (hr : Room 4 (A.deeper (envOfC "heard_list" (defScope (top 14)) s.heap.objs.size f cdv))) : PSst (mkC b N0 [5] H) (cxOf (L2.CX P w) P w K mg base ["score", "bells", "verses", "slots", "size", "heard", "verse", "place", "slot"] "heard_list" (defScope (top 14)) f cdv A outer s H E) (defBody (top 14)) (t_heard_list SP_heard_slots) := by
  have nd := sc_heard_list.nd
  exact ss_cons (st_set 3 ((et_callD d_heard_slots (hr.mono (by decide)) (at_cons (et_var 0) (at_cons (et_var 1) (at_nil)))).tor) (hN := nd)) (
  ss_cons (st_set 4 ((et_callB ct_len (by rfl) g_len (by rfl) (at_cons (et_var 3) (at_nil))).tor) (hN := nd)) (
  ss_cons (st_own 5 (et_lst (at_nil)) (hN := nd)) (
  ss_cons (st_for (it_range1 (et_var 2) g_range) (fun _ _ _ => gt_name 6 (hN := nd)) (fun _ _ _ => ss_one (st_for (it_enum (src_var 3) g_enumerate) (fun _ _ _ => gt_tup (gt_cons (gt_name 7 (hN := nd)) (gt_cons (gt_name 8 (hN := nd)) (gt_nil)))) (fun _ _ _ => ss_one (st_if (bt_cmp ot_ne (et_var 8) (et_str) (by rfl)) (ss_one (st_app 5 ((et_tup (at_cons ((et_op ot_add (et_op ot_mul (et_var 6) (et_var 4)) (et_var 7)).tor) (at_cons ((et_var 8).chk.tor) (at_nil)))).tor))) (ss_nil)))))) (
  ss_one (st_ret (et_callTy ct_tuple (by rfl) g_tuple (by decide +kernel) (at_cons (et_var 5) (at_nil))))))))
theorem sc_is_good_slot : FnScope ["slot", "index", "text"] ["slot"] (defScope (top 18)) := ⟨rfl, rfl, rfl, by decide +kernel, rfl, by decide +kernel, by decide +kernel⟩
theorem p_is_good_slot (g_enumerate : mg "enumerate" = none) (g_MARKS : TupG K mg "MARKS" ["!a", "!b", "!c", "!d", "!e", "!f", "a", "b", "c", "d", "e", "f"]) (cdv : Value) (A : Around) (outer : List Env) (s : Shared) (H : Hp) (E : XK) (b : B) (N0 : Addr → Prop) (hK : b.K = K) (hn0 : ∀ a, N0 a → H a ≠ none) (hr : Room 0 (A.deeper (envOfC "is_good_slot" (defScope (top 18)) s.heap.objs.size f cdv))) : PSst (mkC b N0 [] H) (cxOf (L2.CX P w) P w K mg base ["slot", "index", "text"] "is_good_slot" (defScope (top 18)) f cdv A outer s H E) (defBody (top 18)) (t_is_good_slot ) := by
  have nd := sc_is_good_slot.nd
  exact ss_cons (st_for (it_enum (src_var 0) g_enumerate) (fun _ _ _ => gt_tup (gt_cons (gt_name 1 (hN := nd)) (gt_cons (gt_name 2 (hN := nd)) (gt_nil)))) (fun _ _ _ => ss_cons (st_if (bt_notInG g_MARKS (et_var 2)) (ss_one (st_ret (et_bl))) (ss_nil)) (
  ss_one (st_if (.of (wt_and (bt_cmp ot_gt (et_var 1) (et_int) (by rfl)) (wt_and1 (bt_not (bt_cmp ot_lt (et_ix (et_var 0) (et_op ot_sub (et_var 1) (et_int))) (et_var 2) (by rfl)))))) (ss_one (st_ret (et_bl))) (ss_nil))))) (
  ss_one (st_ret (et_bl)))
theorem sc_check_score : FnScope ["score", "size", "place", "slot"] ["score"] (defScope (top 19)) := ⟨rfl, rfl, rfl, by decide +kernel, rfl, by decide +kernel, by decide +kernel⟩
theorem p_check_score {SP_is_good_slot : TSp} (g_len : mg "len" = none) (g_GREATEST_SIZE : ∃ k, mg "GREATEST_SIZE" = some (.int 24 k)) (g_enumerate : mg "enumerate" = none) (d_is_good_slot : CalD P w K mg base 1 "is_good_slot" 1 SP_is_good_slot) (cdv : Value) (A : Around) (outer : List Env) (s : Shared) (H : Hp) (E : XK) (b : B) (N0 : Addr → Prop) (hK : b.K = K) (hn0 : ∀ a, N0 a → H a ≠ none) (hr : Room 2 (A.deeper (envOfC "check_score" (defScope (top 19)) s.heap.objs.size f cdv))) : PSst (mkC b N0 [] H) (cxOf (L2.CX P w) P w K mg base ["score", "size", "place", "slot"] "check_score" (defScope (top 19)) f cdv A outer s H E) (defBody (top 19)) (t_check_score SP_is_good_slot) := by
  have nd := sc_check_score.nd
  exact ss_cons (st_set 1 ((et_callB ct_len (by rfl) g_len (by rfl) (at_cons (et_var 0) (at_nil))).tor) (hN := nd)) (
  ss_cons (st_if (.of (wt_or (bt_cmp ot_lt (et_var 1) (et_int) (by rfl)) (wt_or1 (bt_cmp ot_gt (et_var 1) (et_gintE g_GREATEST_SIZE) (by rfl))))) (ss_one (st_never)) (ss_nil)) (
  ss_one (st_for (it_enum (src_var 0) g_enumerate) (fun _ _ _ => gt_tup (gt_cons (gt_name 2 (hN := nd)) (gt_cons (gt_name 3 (hN := nd)) (gt_nil)))) (fun _ _ _ => ss_one (st_if (bt_not (bt_val (et_callD d_is_good_slot (hr.mono (by decide)) (at_cons (et_var 3) (at_nil))))) (ss_one (st_never)) (ss_nil))))))
theorem sc_is_good_score : FnScope ["score"] ["score"] (defScope (top 22)) := ⟨rfl, rfl, rfl, by decide +kernel, rfl, by decide +kernel, by decide +kernel⟩
theorem p_is_good_score {SP_check_score : TSp} (d_check_score : CalD P w K mg base 3 "check_score" 1 SP_check_score) (cdv : Value) (A : Around) (outer : List Env) (s : Shared) (H : Hp) (E : XK) (b : B) (N0 : Addr → Prop) (hK : b.K = K) (hn0 : ∀ a, N0 a → H a ≠ none) (hr : Room 3 (A.deeper (envOfC "is_good_score" (defScope (top 22)) s.heap.objs.size f cdv))) : PSst (mkC b N0 [] H) (cxOf (L2.CX P w) P w K mg base ["score"] "is_good_score" (defScope (top 22)) f cdv A outer s H E) (defBody (top 22)) (t_is_good_score SP_check_score) := by
  have nd := sc_is_good_score.nd
  exact ss_cons (st_thru (ss_one (st_expr (et_callD d_check_score (hr.mono (by decide)) (at_cons (et_var 0) (at_nil)))))) (
  ss_one (st_ret (et_bl)))
theorem sc_are_good_scores : FnScope ["scores", "score"] ["scores"] (defScope (top 23)) := ⟨rfl, rfl, rfl, by decide +kernel, rfl, by decide +kernel, by decide +kernel⟩
theorem p_are_good_scores {SP_is_good_score : TSp} (g_len : mg "len" = none) (g_MOST_SCORES : ∃ k, mg "MOST_SCORES" = some (.int 4 k)) (d_is_good_score : CalD P w K mg base 4 "is_good_score" 1 SP_is_good_score) (g_all : mg "all" = none) (cdv : Value) (A : Around) (outer : List Env) (s : Shared) (H : Hp) (E : XK) (b : B) (N0 : Addr → Prop) (hK : b.K = K) (hn0 : ∀ a, N0 a → H a ≠ none) (hr : Room 4 (A.deeper (envOfC "are_good_scores" (defScope (top 23)) s.heap.objs.size f cdv))) : PSst (mkC b N0 [] H) (cxOf (L2.CX P w) P w K mg base ["scores", "score"] "are_good_scores" (defScope (top 23)) f cdv A outer s H E) (defBody (top 23)) (t_are_good_scores SP_is_good_score) := by
  have nd := sc_are_good_scores.nd
  exact ss_cons (st_if (bt_not (bt_chain ot_le ot_le (et_int) (et_callB ct_len (by rfl) g_len (by rfl) (at_cons (et_var 0) (at_nil))) (et_gintE g_MOST_SCORES))) (ss_one (st_ret (et_bl))) (ss_nil)) (
  ss_cons (st_if (bt_not (bt_val (et_callB ct_all (by rfl) g_all (by rfl) (at_cons ((et_lc ((LcParts.mk (it_any (src_var 0)) (fun _ _ _ _ _ _ _ _ => gt_name 1 (hN := nd)) (fun _ _ _ _ _ _ _ _ => tt_nil) (fun _ _ _ _ _ _ _ _ => (et_callD d_is_good_score (hr.mono (by decide)) (at_cons (et_var 1) (at_nil))).tor) (by rfl) : LcParts _ _ [0] _ _ _ _ _ (List.map (·.2) ([("score", 1)] : List (Str × Nat))) _ _ _ _)) (hb := by kernel_rfl) (hN := nd)).tob) (at_nil))))) (ss_one (st_ret (et_bl))) (ss_nil)) (
  ss_one (st_ret (et_callB ct_all (by rfl) g_all (by rfl) (at_cons ((et_lc ((LcParts.mk (it_any (src_var 0)) (fun _ _ _ _ _ _ _ _ => gt_name 1 (hN := nd)) (fun _ _ _ _ _ _ _ _ => tt_nil) (fun _ _ _ _ _ _ _ _ => (et_cmp ot_eq (et_callB ct_len (by rfl) g_len (by rfl) (at_cons (et_var 1) (at_nil))) (et_callB ct_len (by rfl) g_len (by rfl) (at_cons ((et_ix (et_var 0) (et_int)).tob) (at_nil))) (by rfl)).tor) (by rfl) : LcParts _ _ [0] _ _ _ _ _ (List.map (·.2) ([("score", 1)] : List (Str × Nat))) _ _ _ _)) (hb := by kernel_rfl) (hN := nd)).tob) (at_nil))))))
theorem sc_names_missing_tune : FnScope ["changer", "count", "entries", "entry"] ["changer", "count"] (defScope (top 24)) := ⟨rfl, rfl, rfl, by decide +kernel, rfl, by decide +kernel, by decide +kernel⟩
theorem p_names_missing_tune (f_Changer_states : FieldOk K "Changer" "states") (g_any : mg "any" = none) (cdv : Value) (A : Around) (outer : List Env) (s : Shared) (H : Hp) (E : XK) (b : B) (N0 : Addr → Prop) (hK : b.K = K) (hn0 : ∀ a, N0 a → H a ≠ none) (hr : Room 0 (A.deeper (envOfC "names_missing_tune" (defScope (top 24)) s.heap.objs.size f cdv))) : PSst (mkC b N0 [] H) (cxOf (L2.CX P w) P w K mg base ["changer", "count", "entries", "entry"] "names_missing_tune" (defScope (top 24)) f cdv A outer s H E) (defBody (top 24)) (t_names_missing_tune ) := by
  have nd := sc_names_missing_tune.nd
  exact ss_cons (st_for (it_any (src_val (et_fld ["Changer"] (fo1 hK f_Changer_states) (et_var 0)))) (fun _ _ _ => gt_name 2 (hN := nd)) (fun _ _ _ => ss_one (st_if (bt_val (et_callB ct_any (by rfl) g_any (by rfl) (at_cons ((et_lc ((LcParts.mk (it_any (src_var 2)) (fun _ _ _ _ _ _ _ _ => gt_name 3 (hN := nd)) (fun _ _ _ _ _ _ _ _ => tt_nil) (fun _ _ _ _ _ _ _ _ => (et_cmp ot_ge (et_ix (et_var 3) (et_int)) (et_var 1) (by rfl)).tor) (by rfl) : LcParts _ _ [2] _ _ _ _ _ (List.map (·.2) ([("entry", 3)] : List (Str × Nat))) _ _ _ _)) (hb := by kernel_rfl) (hN := nd)).tob) (at_nil)))) (ss_one (st_ret (et_bl))) (ss_nil)))) (
  ss_one (st_ret (et_bl)))
theorem sc_Carillon_init : FnScope ["self", "changer", "scores", "kept"] ["self", "changer", "scores"] (defScope (inClass (top 25) 0)) := ⟨rfl, rfl, rfl, by decide +kernel, rfl, by decide +kernel, by decide +kernel⟩
theorem p_Carillon_init {SP_are_good_scores SP_names_missing_tune : TSp} (g_tuple : mg "tuple" = none) (d_are_good_scores : CalD P w K mg base 5 "are_good_scores" 1 SP_are_good_scores) (g_len : mg "len" = none) (d_names_missing_tune : CalD P w K mg base 1 "names_missing_tune" 2 SP_names_missing_tune) (f_Carillon_changer : FieldOk K "Carillon" "changer") (f_Carillon_scores : FieldOk K "Carillon" "scores") (f_Carillon_size : FieldOk K "Carillon" "size") (cdv : Value) (A : Around) (outer : List Env) (s : Shared) (H : Hp) (E : XK) (b : B) (N0 : Addr → Prop) (y : Addr) (hK : b.K = K) (hn0 : ∀ a, N0 a → H a ≠ none) (hr : Room 5 (A.deeper (envOfC "Carillon.__init__" (defScope (inClass (top 25) 0)) s.heap.objs.size f cdv))) : PSst (mkI b N0 [0] H y) (cxOf (L2.CX P w) P w K mg base ["self", "changer", "scores", "kept"] "Carillon.__init__" (defScope (inClass (top 25) 0)) f cdv A outer s H E) (defBody (inClass (top 25) 0)) (t_Carillon_init SP_are_good_scores SP_names_missing_tune) := by
  have nd := sc_Carillon_init.nd
  exact ss_cons (st_set 3 ((et_callTy ct_tuple (by rfl) g_tuple (by decide +kernel) (at_cons (et_var 2) (at_nil))).tor) (hN := nd)) (
  ss_cons (st_if (bt_not (bt_val (et_callD d_are_good_scores (hr.mono (by decide)) (at_cons (et_var 3) (at_nil))))) (ss_one (st_never)) (ss_nil)) (
  ss_cons (st_if (bt_val (et_callD d_names_missing_tune (hr.mono (by decide)) (at_cons (et_var 1) (at_cons ((et_callB ct_len (by rfl) g_len (by rfl) (at_cons (et_var 3) (at_nil))).tob) (at_nil))))) (ss_one (st_never)) (ss_nil)) (
  ss_cons (st_setf 0 ["Carillon"] (fo1 hK f_Carillon_changer) ((et_var 1).chk.tor)) (
  ss_cons (st_setf 0 ["Carillon"] (fo1 hK f_Carillon_scores) ((et_var 3).chk.tor)) (
  ss_one (st_setf 0 ["Carillon"] (fo1 hK f_Carillon_size) ((et_callB ct_len (by rfl) g_len (by rfl) (at_cons ((et_ix (et_var 3) (et_int)).tob) (at_nil))).tor)))))))
theorem sc_hour_list : FnScope ["carillon", "bells", "tune", "verses"] ["carillon", "bells", "tune", "verses"] (defScope (top 26)) := ⟨rfl, rfl, rfl, by decide +kernel, rfl, by decide +kernel, by decide +kernel⟩
theorem p_hour_list {SP_heard_list : TSp} (f_Carillon_scores : FieldOk K "Carillon" "scores") (k_heard_list : CalK P w K mg base 5 "heard_list" 2 "verses" SP_heard_list) (cdv : Value) (A : Around) (outer : List Env) (s : Shared) (H : Hp) (E : XK) (b : B) (N0 : Addr → Prop) (hK : b.K = K) (hn0 : ∀ a, N0 a → H a ≠ none) (hr : Room 5 (A.deeper (envOfC "hour_list" (defScope (top 26)) s.heap.objs.size f cdv))) : PSst (mkC b N0 [] H) (cxOf (L2.CX P w) P w K mg base ["carillon", "bells", "tune", "verses"] "hour_list" (defScope (top 26)) f cdv A outer s H E) (defBody (top 26)) (t_hour_list SP_heard_list) := by
  have nd := sc_hour_list.nd
  exact ss_cons (st_if (bt_cmp ot_eq (et_var 2) (et_neg (et_int)) (by rfl)) (ss_one (st_ret (et_tup (at_nil)))) (ss_nil)) (
  ss_one (st_ret (et_callK1 k_heard_list (hr.mono (by decide)) (at_cons ((et_ix (et_fld ["Carillon"] (fo1 hK f_Carillon_scores) (et_var 0)) (et_var 2)).tob) (at_cons (et_var 1) (at_nil))) (et_var 3))))
theorem sc_answer_rows : FnScope ["carillon", "bells", "rows", "entries", "row", "entry"] ["carillon", "bells"] (defScope (top 27)) := ⟨rfl, rfl, rfl, by decide +kernel, rfl, by decide +kernel, by decide +kernel⟩
theorem p_answer_rows {SP_hour_list : TSp} (f_Carillon_changer : FieldOk K "Carillon" "changer") (f_Changer_states : FieldOk K "Changer" "states") (d_hour_list : CalD P w K mg base 6 "hour_list" 4 SP_hour_list) (g_tuple : mg "tuple" = none) (cdv : Value) (A : Around) (outer : List Env) (s : Shared) (H : Hp) (E : XK) (b : B) (N0 : Addr → Prop) (hK : b.K = K) (hn0 : ∀ a, N0 a → H a ≠ none) (hr : Room 6 (A.deeper (envOfC "answer_rows" (defScope (top 27)) s.heap.objs.size f cdv))) : PSst (mkC b N0 [2] H) (cxOf (L2.CX P w) P w K mg base ["carillon", "bells", "rows", "entries", "row", "entry"] "answer_rows" (defScope (top 27)) f cdv A outer s H E) (defBody (top 27)) (t_answer_rows SP_hour_list) := by
  have nd := sc_answer_rows.nd
  exact ss_cons (st_own 2 (et_lst (at_nil)) (hN := nd)) (
  ss_cons (st_for (it_any (src_val (et_fld ["Changer"] (fo1 hK f_Changer_states) (et_fld ["Carillon"] (fo1 hK f_Carillon_changer) (et_var 0))))) (fun _ _ _ => gt_name 3 (hN := nd)) (fun _ _ _ => ss_cons (st_setLc 4 ((LcParts.mk (it_any (src_var 3)) (fun _ _ _ _ _ _ _ _ => gt_name 5 (hN := nd)) (fun _ _ _ _ _ _ _ _ => tt_nil) (fun _ _ _ _ _ _ _ _ => (et_tup (at_cons ((et_callD d_hour_list (hr.mono (by decide)) (at_cons (et_var 0) (at_cons (et_var 1) (at_cons ((et_ix (et_var 5) (et_int)).tob) (at_cons ((et_ix (et_var 5) (et_int)).tob) (at_nil)))))).tor) (at_cons (et_ix (et_var 5) (et_int)) (at_nil)))).tor) (by rfl) : LcParts _ _ [3] _ _ _ _ _ (List.map (·.2) ([("entry", 5)] : List (Str × Nat))) _ _ _ _)) (hb := by kernel_rfl) (hN := nd)) (
  ss_one (st_app 2 ((et_callTy ct_tuple (by rfl) g_tuple (by decide +kernel) (at_cons (et_var 4) (at_nil))).tor))))) (
  ss_one (st_ret (et_callTy ct_tuple (by rfl) g_tuple (by decide +kernel) (at_cons (et_var 2) (at_nil))))))
theorem sc_numbered : FnScope ["keys", "numbers", "key"] ["keys"] (defScope (top 28)) := ⟨rfl, rfl, rfl, by decide +kernel, rfl, by decide +kernel, by decide +kernel⟩
theorem p_numbered (g_len : mg "len" = none) (g_tuple : mg "tuple" = none) (cdv : Value) (A : Around) (outer : List Env) (s : Shared) (H : Hp) (E : XK) (b : B) (N0 : Addr → Prop) (hK : b.K = K) (hn0 : ∀ a, N0 a → H a ≠ none) (hr : Room 0 (A.deeper (envOfC "numbered" (defScope (top 28)) s.heap.objs.size f cdv))) : PSst (mkC b N0 [1] H) (cxOf (L2.CX P w) P w K mg base ["keys", "numbers", "key"] "numbered" (defScope (top 28)) f cdv A outer s H E) (defBody (top 28)) (t_numbered w ) := by
  have nd := sc_numbered.nd
  exact ss_cons (st_own 1 (et_nnew) (hN := nd)) (
  ss_cons (st_for (it_any (src_var 0)) (fun _ _ _ => gt_name 2 (hN := nd)) (fun _ _ _ => ss_one (st_nsetd 1 (at_cons ((et_var 2).chk.tor) (at_cons ((et_callB ct_nlen (by rfl) g_len (by rfl) (at_cons (et_var 1) (at_nil))).tor) (at_nil)))))) (
  ss_one (st_ret (et_callTy ct_tuple (by rfl) g_tuple (by decide +kernel) (at_cons ((et_lc ((LcParts.mk (it_any (src_var 0)) (fun _ _ _ _ _ _ _ _ => gt_name 2 (hN := nd)) (fun _ _ _ _ _ _ _ _ => tt_nil) (fun _ _ _ _ _ _ _ _ => et_nget (et_var 1) (et_var 2)) (by rfl) : LcParts _ _ [0] _ _ _ _ _ (List.map (·.2) ([("key", 2)] : List (Str × Nat))) _ _ _ _)) (hb := by kernel_rfl) (hN := nd)).tob) (at_nil))))))
theorem sc_refined : FnScope ["rows", "last", "keys", "state", "row", "hour"] ["rows", "last"] (defScope (top 29)) := ⟨rfl, rfl, rfl, by decide +kernel, rfl, by decide +kernel, by decide +kernel⟩
theorem p_refined {SP_numbered : TSp} (g_enumerate : mg "enumerate" = none) (g_tuple : mg "tuple" = none) (d_numbered : CalD P w K mg base 1 "numbered" 1 SP_numbered) (cdv : Value) (A : Around) (outer : List Env) (s : Shared) (H : Hp) (E : XK) (b : B) (N0 : Addr → Prop) (hK : b.K = K) (hn0 : ∀ a, N0 a → H a ≠ none) (hr : Room 1 (A.deeper (envOfC "refined" (defScope (top 29)) s.heap.objs.size f cdv))) : PSst (mkC b N0 [2] H) (cxOf (L2.CX P w) P w K mg base ["rows", "last", "keys", "state", "row", "hour"] "refined" (defScope (top 29)) f cdv A outer s H E) (defBody (top 29)) (t_refined SP_numbered) := by
  have nd := sc_refined.nd
  exact ss_cons (st_own 2 (et_lst (at_nil)) (hN := nd)) (
  ss_cons (st_for (it_enum (src_var 0) g_enumerate) (fun _ _ _ => gt_tup (gt_cons (gt_name 3 (hN := nd)) (gt_cons (gt_name 4 (hN := nd)) (gt_nil)))) (fun _ _ _ => ss_one (st_app 2 ((et_tup (at_cons (et_ix (et_var 1) (et_var 3)) (at_cons ((et_callTy ct_tuple (by rfl) g_tuple (by decide +kernel) (at_cons ((et_lc ((LcParts.mk (it_any (src_var 4)) (fun _ _ _ _ _ _ _ _ => gt_name 5 (hN := nd)) (fun _ _ _ _ _ _ _ _ => tt_nil) (fun _ _ _ _ _ _ _ _ => et_ix (et_var 1) (et_ix (et_var 5) (et_int))) (by rfl) : LcParts _ _ [4] _ _ _ _ _ (List.map (·.2) ([("hour", 5)] : List (Str × Nat))) _ _ _ _)) (hb := by kernel_rfl) (hN := nd)).tob) (at_nil))).tor) (at_nil)))).tor)))) (
  ss_one (st_ret (et_callD d_numbered (hr.mono (by decide)) (at_cons (et_var 2) (at_nil))))))
theorem sc_row_partitions : FnScope ["rows", "found", "row", "hour", "finer"] ["rows"] (defScope (top 30)) := ⟨rfl, rfl, rfl, by decide +kernel, rfl, by decide +kernel, by decide +kernel⟩
theorem p_row_partitions {SP_numbered SP_refined : TSp} (g_tuple : mg "tuple" = none) (d_numbered : CalD P w K mg base 1 "numbered" 1 SP_numbered) (d_refined : CalD P w K mg base 2 "refined" 2 SP_refined) (cdv : Value) (A : Around) (outer : List Env) (s : Shared) (H : Hp) (E : XK) (b : B) (N0 : Addr → Prop) (hK : b.K = K) (hn0 : ∀ a, N0 a → H a ≠ none) (hr : Room 2 (A.deeper (envOfC "row_partitions" (defScope (top 30)) s.heap.objs.size f cdv))) : PSst (mkC b N0 [1] H) (cxOf (L2.CX P w) P w K mg base ["rows", "found", "row", "hour", "finer"] "row_partitions" (defScope (top 30)) f cdv A outer s H E) (defBody (top 30)) (t_row_partitions SP_numbered SP_refined) := by
  have nd := sc_row_partitions.nd
  exact ss_cons (st_own 1 (et_lst (at_cons ((et_callD d_numbered (hr.mono (by decide)) (at_cons ((et_lc ((LcParts.mk (it_any (src_var 0)) (fun _ _ _ _ _ _ _ _ => gt_name 2 (hN := nd)) (fun _ _ _ _ _ _ _ _ => tt_nil) (fun _ _ _ _ _ _ _ _ => (et_callTy ct_tuple (by rfl) g_tuple (by decide +kernel) (at_cons ((et_lc ((LcParts.mk (it_any (src_var 2)) (fun _ _ _ _ _ _ _ _ => gt_name 3 (hN := nd)) (fun _ _ _ _ _ _ _ _ => tt_nil) (fun _ _ _ _ _ _ _ _ => et_ix (et_var 3) (et_int)) (by rfl) : LcParts _ _ [2] _ _ _ _ _ (List.map (·.2) ([("hour", 3)] : List (Str × Nat))) _ _ _ _)) (hb := by kernel_rfl) (hN := nd)).tob) (at_nil))).tor) (by rfl) : LcParts _ _ [0] _ _ _ _ _ (List.map (·.2) ([("row", 2)] : List (Str × Nat))) _ _ _ _)) (hb := by kernel_rfl) (hN := nd)).tob) (at_nil))).tor) (at_nil))) (hN := nd)) (
  ss_cons (st_set 4 ((et_callD d_refined (hr.mono (by decide)) (at_cons (et_var 0) (at_cons ((et_ix (et_var 1) (et_neg (et_int))).tob) (at_nil)))).tor) (hN := nd)) (
  ss_cons (st_while (bt_cmp ot_ne (et_var 4) (et_ix (et_var 1) (et_neg (et_int))) (by rfl)) (ss_cons (st_app 1 ((et_var 4).chk.tor)) (
  ss_one (st_set 4 ((et_callD d_refined (hr.mono (by decide)) (at_cons (et_var 0) (at_cons (et_var 4) (at_nil)))).tor) (hN := nd))))) (
  ss_one (st_ret (et_callTy ct_tuple (by rfl) g_tuple (by decide +kernel) (at_cons (et_var 1) (at_nil)))))))
theorem sc_first_difference : FnScope ["one", "two", "at"] ["one", "two"] (defScope (top 31)) := ⟨rfl, rfl, rfl, by decide +kernel, rfl, by decide +kernel, by decide +kernel⟩
theorem p_first_difference  (cdv : Value) (A : Around) (outer : List Env) (s : Shared) (H : Hp) (E : XK) (b : B) (N0 : Addr → Prop) (hK : b.K = K) (hn0 : ∀ a, N0 a → H a ≠ none) (hr : Room 0 (A.deeper (envOfC "first_difference" (defScope (top 31)) s.heap.objs.size f cdv))) : PSst (mkC b N0 [] H) (cxOf (L2.CX P w) P w K mg base ["one", "two", "at"] "first_difference" (defScope (top 31)) f cdv A outer s H E) (defBody (top 31)) (t_first_difference ) := by
  have nd := sc_first_difference.nd
  exact ss_cons (st_set 2 ((et_int).tor) (hN := nd)) (
  ss_cons (st_while (bt_cmp ot_eq (et_ix (et_var 0) (et_var 2)) (et_ix (et_var 1) (et_var 2)) (by rfl)) (ss_one (st_aug 2 ip_addT (et_int) (hN := nd)))) (
  ss_one (st_ret ((et_var 2).chk))))
theorem sc_row_word : FnScope ["rows", "found", "letters", "one", "two", "rank", "word", "earlier", "at", "hour"] ["rows", "found", "letters", "one", "two"] (defScope (top 32)) := ⟨rfl, rfl, rfl, by decide +kernel, rfl, by decide +kernel, by decide +kernel⟩
theorem p_row_word {SP_first_difference : TSp} (d_first_difference : CalD P w K mg base 1 "first_difference" 2 SP_first_difference) (cdv : Value) (A : Around) (outer : List Env) (s : Shared) (H : Hp) (E : XK) (b : B) (N0 : Addr → Prop) (hK : b.K = K) (hn0 : ∀ a, N0 a → H a ≠ none) (hr : Room 1 (A.deeper (envOfC "row_word" (defScope (top 32)) s.heap.objs.size f cdv))) : PSst (mkC b N0 [] H) (cxOf (L2.CX P w) P w K mg base ["rows", "found", "letters", "one", "two", "rank", "word", "earlier", "at", "hour"] "row_word" (defScope (top 32)) f cdv A outer s H E) (defBody (top 32)) (t_row_word SP_first_difference) := by
  have nd := sc_row_word.nd
  exact ss_cons (st_if (bt_cmp ot_eq (et_ix (et_ix (et_var 1) (et_neg (et_int))) (et_var 3)) (et_ix (et_ix (et_var 1) (et_neg (et_int))) (et_var 4)) (by rfl)) (ss_one (st_ret (et_non))) (ss_nil)) (
  ss_cons (st_set 5 ((et_int).tor) (hN := nd)) (
  ss_cons (st_while (bt_cmp ot_eq (et_ix (et_ix (et_var 1) (et_var 5)) (et_var 3)) (et_ix (et_ix (et_var 1) (et_var 5)) (et_var 4)) (by rfl)) (ss_one (st_aug 5 ip_addT (et_int) (hN := nd)))) (
  ss_cons (st_set 6 ((et_str).tor) (hN := nd)) (
  ss_cons (st_while (bt_cmp ot_gt (et_var 5) (et_int) (by rfl)) (ss_cons (st_aug 5 ip_subT (et_int) (hN := nd)) (
  ss_cons (st_set 7 (et_ix (et_var 1) (et_var 5)) (hN := nd)) (
  ss_cons (st_set 8 ((et_callD d_first_difference (hr.mono (by decide)) (at_cons ((et_lc ((LcParts.mk (it_any (src_val (et_ix (et_var 0) (et_var 3)))) (fun _ _ _ _ _ _ _ _ => gt_name 9 (hN := nd)) (fun _ _ _ _ _ _ _ _ => tt_nil) (fun _ _ _ _ _ _ _ _ => et_ix (et_var 7) (et_ix (et_var 9) (et_int))) (by rfl) : LcParts _ _ [] _ _ _ _ _ (List.map (·.2) ([("hour", 9)] : List (Str × Nat))) _ _ _ _)) (hb := by kernel_rfl) (hN := nd)).tob) (at_cons ((et_lc ((LcParts.mk (it_any (src_val (et_ix (et_var 0) (et_var 4)))) (fun _ _ _ _ _ _ _ _ => gt_name 9 (hN := nd)) (fun _ _ _ _ _ _ _ _ => tt_nil) (fun _ _ _ _ _ _ _ _ => et_ix (et_var 7) (et_ix (et_var 9) (et_int))) (by rfl) : LcParts _ _ [] _ _ _ _ _ (List.map (·.2) ([("hour", 9)] : List (Str × Nat))) _ _ _ _)) (hb := by kernel_rfl) (hN := nd)).tob) (at_nil)))).tor) (hN := nd)) (
  ss_cons (st_aug 6 ip_addT (et_ix (et_var 2) (et_var 8)) (hN := nd)) (
  ss_one (st_par 3 4 (at_cons (et_ix (et_ix (et_ix (et_var 0) (et_var 3)) (et_var 8)) (et_int)) (at_cons (et_ix (et_ix (et_ix (et_var 0) (et_var 4)) (et_var 8)) (et_int)) (at_nil))) (hN := nd)))))))) (
  ss_cons (st_set 8 ((et_callD d_first_difference (hr.mono (by decide)) (at_cons ((et_lc ((LcParts.mk (it_any (src_val (et_ix (et_var 0) (et_var 3)))) (fun _ _ _ _ _ _ _ _ => gt_name 9 (hN := nd)) (fun _ _ _ _ _ _ _ _ => tt_nil) (fun _ _ _ _ _ _ _ _ => et_ix (et_var 9) (et_int)) (by rfl) : LcParts _ _ [] _ _ _ _ _ (List.map (·.2) ([("hour", 9)] : List (Str × Nat))) _ _ _ _)) (hb := by kernel_rfl) (hN := nd)).tob) (at_cons ((et_lc ((LcParts.mk (it_any (src_val (et_ix (et_var 0) (et_var 4)))) (fun _ _ _ _ _ _ _ _ => gt_name 9 (hN := nd)) (fun _ _ _ _ _ _ _ _ => tt_nil) (fun _ _ _ _ _ _ _ _ => et_ix (et_var 9) (et_int)) (by rfl) : LcParts _ _ [] _ _ _ _ _ (List.map (·.2) ([("hour", 9)] : List (Str × Nat))) _ _ _ _)) (hb := by kernel_rfl) (hN := nd)).tob) (at_nil)))).tor) (hN := nd)) (
  ss_one (st_ret (et_op ot_add (et_var 6) (et_ix (et_var 2) (et_var 8))))))))))
theorem sc_check_pair : FnScope ["one", "two", "bells"] ["one", "two", "bells"] (defScope (top 34)) := ⟨rfl, rfl, rfl, by decide +kernel, rfl, by decide +kernel, by decide +kernel⟩
theorem p_check_pair {SP_check_bells : TSp} (d_check_bells : CalD P w K mg base 3 "check_bells" 1 SP_check_bells) (f_Carillon_changer : FieldOk K "Carillon" "changer") (f_Changer_letters : FieldOk K "Changer" "letters") (x_Unlike : XD P w K mg base "Unlike" "field") (f_Carillon_size : FieldOk K "Carillon" "size") (cdv : Value) (A : Around) (outer : List Env) (s : Shared) (H : Hp) (E : XK) (b : B) (N0 : Addr → Prop) (hK : b.K = K) (hn0 : ∀ a, N0 a → H a ≠ none) (hr : Room 3 (A.deeper (envOfC "check_pair" (defScope (top 34)) s.heap.objs.size f cdv))) : PSst (mkC b N0 [] H) (cxOf (L2.CX P w) P w K mg base ["one", "two", "bells"] "check_pair" (defScope (top 34)) f cdv A outer s H E) (defBody (top 34)) (t_check_pair SP_check_bells) := by
  have nd := sc_check_pair.nd
  exact ss_cons (st_expr (et_callD d_check_bells (hr.mono (by decide)) (at_cons (et_var 2) (at_nil)))) (
  ss_cons (st_if (bt_cmp ot_ne (et_fld ["Changer"] (fo1 hK f_Changer_letters) (et_fld ["Carillon"] (fo1 hK f_Carillon_changer) (et_var 0))) (et_fld ["Changer"] (fo1 hK f_Changer_letters) (et_fld ["Carillon"] (fo1 hK f_Carillon_changer) (et_var 1))) (by rfl)) (ss_one (st_raiseD x_Unlike (hr.mono (by decide)) (at_cons ((et_str).tor) (at_nil)))) (ss_nil)) (
  ss_one (st_if (bt_cmp ot_ne (et_fld ["Carillon"] (fo1 hK f_Carillon_size) (et_var 0)) (et_fld ["Carillon"] (fo1 hK f_Carillon_size) (et_var 1)) (by rfl)) (ss_one (st_raiseD x_Unlike (hr.mono (by decide)) (at_cons ((et_str).tor) (at_nil)))) (ss_nil))))
theorem sc_joint_rows : FnScope ["one", "two", "bells", "offset", "rows", "row", "hour"] ["one", "two", "bells"] (defScope (top 35)) := ⟨rfl, rfl, rfl, by decide +kernel, rfl, by decide +kernel, by decide +kernel⟩
theorem p_joint_rows {SP_Changer_len SP_answer_rows : TSp} (f_Carillon_changer : FieldOk K "Carillon" "changer") (l_Changer : LenD P w K mg base 1 "Changer" SP_Changer_len) (g_len : mg "len" = none) (d_answer_rows : CalD P w K mg base 7 "answer_rows" 2 SP_answer_rows) (g_list : mg "list" = none) (g_tuple : mg "tuple" = none) (cdv : Value) (A : Around) (outer : List Env) (s : Shared) (H : Hp) (E : XK) (b : B) (N0 : Addr → Prop) (hK : b.K = K) (hn0 : ∀ a, N0 a → H a ≠ none) (hr : Room 7 (A.deeper (envOfC "joint_rows" (defScope (top 35)) s.heap.objs.size f cdv))) : PSst (mkC b N0 [4] H) (cxOf (L2.CX P w) P w K mg base ["one", "two", "bells", "offset", "rows", "row", "hour"] "joint_rows" (defScope (top 35)) f cdv A outer s H E) (defBody (top 35)) (t_joint_rows SP_Changer_len SP_answer_rows) := by
  have nd := sc_joint_rows.nd
  exact ss_cons (st_set 3 ((et_lenO l_Changer (hr.mono (by decide)) g_len (et_fld ["Carillon"] (fo1 hK f_Carillon_changer) (et_var 0))).tor) (hN := nd)) (
  ss_cons (st_own 4 (et_callTy ct_list (by rfl) g_list (by decide +kernel) (at_cons ((et_callD d_answer_rows (hr.mono (by decide)) (at_cons (et_var 0) (at_cons (et_var 2) (at_nil)))).tob) (at_nil))) (hN := nd)) (
  ss_cons (st_for (it_any (src_val (et_callD d_answer_rows (hr.mono (by decide)) (at_cons (et_var 1) (at_cons (et_var 2) (at_nil)))))) (fun _ _ _ => gt_name 5 (hN := nd)) (fun _ _ _ => ss_one (st_app 4 ((et_callTy ct_tuple (by rfl) g_tuple (by decide +kernel) (at_cons ((et_lc ((LcParts.mk (it_any (src_var 5)) (fun _ _ _ _ _ _ _ _ => gt_name 6 (hN := nd)) (fun _ _ _ _ _ _ _ _ => tt_nil) (fun _ _ _ _ _ _ _ _ => (et_tup (at_cons (et_ix (et_var 6) (et_int)) (at_cons ((et_op ot_add (et_ix (et_var 6) (et_int)) (et_var 3)).tor) (at_nil)))).tor) (by rfl) : LcParts _ _ [5] _ _ _ _ _ (List.map (·.2) ([("hour", 6)] : List (Str × Nat))) _ _ _ _)) (hb := by kernel_rfl) (hN := nd)).tob) (at_nil))).tor)))) (
  ss_one (st_ret (et_callTy ct_tuple (by rfl) g_tuple (by decide +kernel) (at_cons (et_var 4) (at_nil)))))))
theorem sc_alike : FnScope ["one", "two", "bells", "rows", "found", "word"] ["one", "two", "bells"] (defScope (top 36)) := ⟨rfl, rfl, rfl, by decide +kernel, rfl, by decide +kernel, by decide +kernel⟩
theorem p_alike {SP_check_pair SP_joint_rows SP_row_partitions SP_Changer_len SP_row_word : TSp} (d_check_pair : CalD P w K mg base 4 "check_pair" 3 SP_check_pair) (d_joint_rows : CalD P w K mg base 8 "joint_rows" 3 SP_joint_rows) (d_row_partitions : CalD P w K mg base 3 "row_partitions" 1 SP_row_partitions) (f_Carillon_changer : FieldOk K "Carillon" "changer") (l_Changer : LenD P w K mg base 1 "Changer" SP_Changer_len) (g_len : mg "len" = none) (f_Changer_letters : FieldOk K "Changer" "letters") (d_row_word : CalD P w K mg base 2 "row_word" 5 SP_row_word) (cdv : Value) (A : Around) (outer : List Env) (s : Shared) (H : Hp) (E : XK) (b : B) (N0 : Addr → Prop) (hK : b.K = K) (hn0 : ∀ a, N0 a → H a ≠ none) (hr : Room 8 (A.deeper (envOfC "alike" (defScope (top 36)) s.heap.objs.size f cdv))) : PSst (mkC b N0 [] H) (cxOf (L2.CX P w) P w K mg base ["one", "two", "bells", "rows", "found", "word"] "alike" (defScope (top 36)) f cdv A outer s H E) (defBody (top 36)) (t_alike SP_check_pair SP_joint_rows SP_row_partitions SP_Changer_len SP_row_word) := by
  have nd := sc_alike.nd
  exact ss_cons (st_expr (et_callD d_check_pair (hr.mono (by decide)) (at_cons (et_var 0) (at_cons (et_var 1) (at_cons (et_var 2) (at_nil)))))) (
  ss_cons (st_set 3 ((et_callD d_joint_rows (hr.mono (by decide)) (at_cons (et_var 0) (at_cons (et_var 1) (at_cons (et_var 2) (at_nil))))).tor) (hN := nd)) (
  ss_cons (st_set 4 ((et_callD d_row_partitions (hr.mono (by decide)) (at_cons (et_var 3) (at_nil))).tor) (hN := nd)) (
  ss_cons (st_set 5 ((et_callD d_row_word (hr.mono (by decide)) (at_cons (et_var 3) (at_cons (et_var 4) (at_cons ((et_fld ["Changer"] (fo1 hK f_Changer_letters) (et_fld ["Carillon"] (fo1 hK f_Carillon_changer) (et_var 0))).tob) (at_cons ((et_int).tob) (at_cons ((et_lenO l_Changer (hr.mono (by decide)) g_len (et_fld ["Carillon"] (fo1 hK f_Carillon_changer) (et_var 0))).tob) (at_nil))))))).tor) (hN := nd)) (
  ss_cons (st_if (bt_cmp ot_is (et_var 5) (et_non) (by rfl)) (ss_one (st_ret (et_tup (at_cons ((et_str).tor) (at_cons (et_ix (et_var 4) (et_neg (et_int))) (at_nil)))))) (ss_nil)) (
  ss_one (st_ret (et_tup (at_cons ((et_str).tor) (at_cons ((et_var 5).chk.tor) (at_nil))))))))))
theorem sc_alike_bells : FnScope ["one", "two", "bells", "bell"] ["one", "two", "bells"] (defScope (top 37)) := ⟨rfl, rfl, rfl, by decide +kernel, rfl, by decide +kernel, by decide +kernel⟩
theorem p_alike_bells {SP_check_pair SP_alike : TSp} (d_check_pair : CalD P w K mg base 4 "check_pair" 3 SP_check_pair) (d_alike : CalD P w K mg base 9 "alike" 3 SP_alike) (cdv : Value) (A : Around) (outer : List Env) (s : Shared) (H : Hp) (E : XK) (b : B) (N0 : Addr → Prop) (hK : b.K = K) (hn0 : ∀ a, N0 a → H a ≠ none) (hr : Room 9 (A.deeper (envOfC "alike_bells" (defScope (top 37)) s.heap.objs.size f cdv))) : PSst (mkC b N0 [] H) (cxOf (L2.CX P w) P w K mg base ["one", "two", "bells", "bell"] "alike_bells" (defScope (top 37)) f cdv A outer s H E) (defBody (top 37)) (t_alike_bells SP_check_pair SP_alike) := by
  have nd := sc_alike_bells.nd
  exact ss_cons (st_expr (et_callD d_check_pair (hr.mono (by decide)) (at_cons (et_var 0) (at_cons (et_var 1) (at_cons (et_var 2) (at_nil)))))) (
  ss_one (st_ret (et_join (et_str) (et_lc ((LcParts.mk (it_any (src_var 2)) (fun _ _ _ _ _ _ _ _ => gt_name 3 (hN := nd)) (fun _ _ _ _ _ _ _ _ => tt_one (bt_cmp ot_eq (et_ix (et_callD d_alike (hr.mono (by decide)) (at_cons (et_var 0) (at_cons (et_var 1) (at_cons (et_var 3) (at_nil))))) (et_int)) (et_str) (by rfl))) (fun _ _ _ _ _ _ _ _ => (et_var 3).chk.tor) (by rfl) : LcParts _ _ [2] _ _ _ _ _ (List.map (·.2) ([("bell", 3)] : List (Str × Nat))) _ _ _ _)) (hb := by kernel_rfl) (hN := nd)))))
theorem sc_are_letters : FnScope ["text", "sign"] ["text"] (defScope (top 43)) := ⟨rfl, rfl, rfl, by decide +kernel, rfl, by decide +kernel, by decide +kernel⟩
theorem p_are_letters (g_all : mg "all" = none) (cdv : Value) (A : Around) (outer : List Env) (s : Shared) (H : Hp) (E : XK) (b : B) (N0 : Addr → Prop) (hK : b.K = K) (hn0 : ∀ a, N0 a → H a ≠ none) (hr : Room 0 (A.deeper (envOfC "are_letters" (defScope (top 43)) s.heap.objs.size f cdv))) : PSst (mkC b N0 [] H) (cxOf (L2.CX P w) P w K mg base ["text", "sign"] "are_letters" (defScope (top 43)) f cdv A outer s H E) (defBody (top 43)) (t_are_letters ) := by
  have nd := sc_are_letters.nd
  exact ss_one (st_ret (et_callB ct_all (by rfl) g_all (by rfl) (at_cons ((et_lc ((LcParts.mk (it_any (src_var 0)) (fun _ _ _ _ _ _ _ _ => gt_name 1 (hN := nd)) (fun _ _ _ _ _ _ _ _ => tt_nil) (fun _ _ _ _ _ _ _ _ => (et_chain ot_le ot_le (et_str) (et_var 1) (et_str)).tor) (by rfl) : LcParts _ _ [0] _ _ _ _ _ (List.map (·.2) ([("sign", 1)] : List (Str × Nat))) _ _ _ _)) (hb := by kernel_rfl) (hN := nd)).tob) (at_nil))))
theorem sc_is_entry : FnScope ["entry", "count", "follower", "tune", "verses"] ["entry", "count"] (defScope (top 44)) := ⟨rfl, rfl, rfl, by decide +kernel, rfl, by decide +kernel, by decide +kernel⟩
theorem p_is_entry (g_LAST_TUNE : ∃ k, mg "LAST_TUNE" = some (.int 3 k)) (g_MOST_VERSES : ∃ k, mg "MOST_VERSES" = some (.int 3 k)) (cdv : Value) (A : Around) (outer : List Env) (s : Shared) (H : Hp) (E : XK) (b : B) (N0 : Addr → Prop) (hK : b.K = K) (hn0 : ∀ a, N0 a → H a ≠ none) (hr : Room 0 (A.deeper (envOfC "is_entry" (defScope (top 44)) s.heap.objs.size f cdv))) : PSst (mkC b N0 [] H) (cxOf (L2.CX P w) P w K mg base ["entry", "count", "follower", "tune", "verses"] "is_entry" (defScope (top 44)) f cdv A outer s H E) (defBody (top 44)) (t_is_entry ) := by
  have nd := sc_is_entry.nd
  exact ss_cons (st_asg ((et_var 0).chk.tor) (gt_tup (gt_cons (gt_name 2 (hN := nd)) (gt_cons (gt_name 3 (hN := nd)) (gt_cons (gt_name 4 (hN := nd)) (gt_nil)))))) (
  ss_cons (st_if (bt_not (bt_chain ot_le ot_lt (et_int) (et_var 2) (et_var 1))) (ss_one (st_ret (et_bl))) (ss_nil)) (
  ss_cons (st_if (bt_cmp ot_eq (et_var 3) (et_neg (et_int)) (by rfl)) (ss_one (st_ret (et_cmp ot_eq (et_var 4) (et_int) (by rfl)))) (ss_nil)) (
  ss_one (st_ret (et_and (et_chain ot_le ot_le (et_int) (et_var 3) (et_gintE g_LAST_TUNE)) (et_one (et_chain ot_le ot_le (et_int) (et_var 4) (et_gintE g_MOST_VERSES))))))))
theorem sc_check_changer : FnScope ["letters", "states", "state", "row", "place", "entry"] ["letters", "states"] (defScope (top 45)) := ⟨rfl, rfl, rfl, by decide +kernel, rfl, by decide +kernel, by decide +kernel⟩
theorem p_check_changer {SP_are_letters SP_is_entry : TSp} (g_len : mg "len" = none) (g_MOST_LETTERS : ∃ k, mg "MOST_LETTERS" = some (.int 3 k)) (g_MOST_STATES : ∃ k, mg "MOST_STATES" = some (.int 6 k)) (d_are_letters : CalD P w K mg base 1 "are_letters" 1 SP_are_letters) (g_set : mg "set" = none) (g_enumerate : mg "enumerate" = none) (d_is_entry : CalD P w K mg base 1 "is_entry" 2 SP_is_entry) (cdv : Value) (A : Around) (outer : List Env) (s : Shared) (H : Hp) (E : XK) (b : B) (N0 : Addr → Prop) (hK : b.K = K) (hn0 : ∀ a, N0 a → H a ≠ none) (hr : Room 2 (A.deeper (envOfC "check_changer" (defScope (top 45)) s.heap.objs.size f cdv))) : PSst (mkC b N0 [] H) (cxOf (L2.CX P w) P w K mg base ["letters", "states", "state", "row", "place", "entry"] "check_changer" (defScope (top 45)) f cdv A outer s H E) (defBody (top 45)) (t_check_changer SP_are_letters SP_is_entry) := by
  have nd := sc_check_changer.nd
  exact ss_cons (st_if (.of (wt_or (bt_not (bt_chain ot_le ot_le (et_int) (et_callB ct_len (by rfl) g_len (by rfl) (at_cons (et_var 0) (at_nil))) (et_gintE g_MOST_LETTERS))) (wt_or1 (bt_not (bt_chain ot_le ot_le (et_int) (et_callB ct_len (by rfl) g_len (by rfl) (at_cons (et_var 1) (at_nil))) (et_gintE g_MOST_STATES)))))) (ss_one (st_never)) (ss_nil)) (
  ss_cons (st_if (.of (wt_or (bt_not (bt_val (et_callD d_are_letters (hr.mono (by decide)) (at_cons (et_var 0) (at_nil))))) (wt_or1 (bt_cmp ot_ne (et_lenSet (et_var 0) g_len g_set) (et_callB ct_len (by rfl) g_len (by rfl) (at_cons (et_var 0) (at_nil))) (by rfl))))) (ss_one (st_never)) (ss_nil)) (
  ss_one (st_for (it_enum (src_var 1) g_enumerate) (fun _ _ _ => gt_tup (gt_cons (gt_name 2 (hN := nd)) (gt_cons (gt_name 3 (hN := nd)) (gt_nil)))) (fun _ _ _ => ss_cons (st_if (bt_cmp ot_ne (et_callB ct_len (by rfl) g_len (by rfl) (at_cons (et_var 3) (at_nil))) (et_callB ct_len (by rfl) g_len (by rfl) (at_cons (et_var 0) (at_nil))) (by rfl)) (ss_one (st_never)) (ss_nil)) (
  ss_one (st_for (it_enum (src_var 3) g_enumerate) (fun _ _ _ => gt_tup (gt_cons (gt_name 4 (hN := nd)) (gt_cons (gt_name 5 (hN := nd)) (gt_nil)))) (fun _ _ _ => ss_one (st_if (bt_not (bt_val (et_callD d_is_entry (hr.mono (by decide)) (at_cons (et_var 5) (at_cons ((et_callB ct_len (by rfl) g_len (by rfl) (at_cons (et_var 1) (at_nil))).tob) (at_nil)))))) (ss_one (st_never)) (ss_nil)))))))))
theorem sc_Changer_init : FnScope ["self", "letters", "states"] ["self", "letters", "states"] (defScope (inClass (top 46) 0)) := ⟨rfl, rfl, rfl, by decide +kernel, rfl, by decide +kernel, by decide +kernel⟩
theorem p_Changer_init {SP_check_changer : TSp} (d_check_changer : CalD P w K mg base 3 "check_changer" 2 SP_check_changer) (f_Changer_letters : FieldOk K "Changer" "letters") (g_tuple : mg "tuple" = none) (f_Changer_states : FieldOk K "Changer" "states") (cdv : Value) (A : Around) (outer : List Env) (s : Shared) (H : Hp) (E : XK) (b : B) (N0 : Addr → Prop) (y : Addr) (hK : b.K = K) (hn0 : ∀ a, N0 a → H a ≠ none) (hr : Room 3 (A.deeper (envOfC "Changer.__init__" (defScope (inClass (top 46) 0)) s.heap.objs.size f cdv))) : PSst (mkI b N0 [0] H y) (cxOf (L2.CX P w) P w K mg base ["self", "letters", "states"] "Changer.__init__" (defScope (inClass (top 46) 0)) f cdv A outer s H E) (defBody (inClass (top 46) 0)) (t_Changer_init SP_check_changer) := by
  have nd := sc_Changer_init.nd
  exact ss_cons (st_expr (et_callD d_check_changer (hr.mono (by decide)) (at_cons (et_var 1) (at_cons (et_var 2) (at_nil))))) (
  ss_cons (st_setf 0 ["Changer"] (fo1 hK f_Changer_letters) ((et_var 1).chk.tor)) (
  ss_one (st_setf 0 ["Changer"] (fo1 hK f_Changer_states) ((et_callTy ct_tuple (by rfl) g_tuple (by decide +kernel) (at_cons (et_var 2) (at_nil))).tor))))
theorem sc_Changer_len : FnScope ["self"] ["self"] (defScope (inClass (top 46) 2)) := ⟨rfl, rfl, rfl, by decide +kernel, rfl, by decide +kernel, by decide +kernel⟩
theorem p_Changer_len (f_Changer_states : FieldOk K "Changer" "states") (g_len : mg "len" = none) (cdv : Value) (A : Around) (outer : List Env) (s : Shared) (H : Hp) (E : XK) (b : B) (N0 : Addr → Prop) (hK : b.K = K) (hn0 : ∀ a, N0 a → H a ≠ none) (hr : Room 0 (A.deeper (envOfC "Changer.__len__" (defScope (inClass (top 46) 2)) s.heap.objs.size f cdv))) : PSst (mkC b N0 [] H) (cxOf (L2.CX P w) P w K mg base ["self"] "Changer.__len__" (defScope (inClass (top 46) 2)) f cdv A outer s H E) (defBody (inClass (top 46) 2)) (t_Changer_len ) := by
  have nd := sc_Changer_len.nd
  exact ss_one (st_ret (et_callB ct_len (by rfl) g_len (by rfl) (at_cons ((et_fld ["Changer"] (fo1 hK f_Changer_states) (et_var 0)).tob) (at_nil))))
theorem sc_Changer_has_letter : FnScope ["self", "letter"] ["self", "letter"] (defScope (inClass (top 46) 3)) := ⟨rfl, rfl, rfl, by decide +kernel, rfl, by decide +kernel, by decide +kernel⟩
theorem p_Changer_has_letter (g_len : mg "len" = none) (f_Changer_letters : FieldOk K "Changer" "letters") (cdv : Value) (A : Around) (outer : List Env) (s : Shared) (H : Hp) (E : XK) (b : B) (N0 : Addr → Prop) (hK : b.K = K) (hn0 : ∀ a, N0 a → H a ≠ none) (hr : Room 0 (A.deeper (envOfC "Changer.has_letter" (defScope (inClass (top 46) 3)) s.heap.objs.size f cdv))) : PSst (mkC b N0 [] H) (cxOf (L2.CX P w) P w K mg base ["self", "letter"] "Changer.has_letter" (defScope (inClass (top 46) 3)) f cdv A outer s H E) (defBody (inClass (top 46) 3)) (t_Changer_has_letter ) := by
  have nd := sc_Changer_has_letter.nd
  exact ss_one (st_ret (et_and (et_cmp ot_eq (et_callB ct_len (by rfl) g_len (by rfl) (at_cons (et_var 1) (at_nil))) (et_int) (by rfl)) (et_one (et_cmp ot_in (et_var 1) (et_fld ["Changer"] (fo1 hK f_Changer_letters) (et_var 0)) (by rfl)))))
theorem sc__law_mix : FnScope ["one", "two", "first", "second"] ["one", "two"] (defScope (top 48)) := ⟨rfl, rfl, rfl, by decide +kernel, rfl, by decide +kernel, by decide +kernel⟩
theorem p__law_mix (g_int : mg "int" = none) (cdv : Value) (A : Around) (outer : List Env) (s : Shared) (H : Hp) (E : XK) (b : B) (N0 : Addr → Prop) (hK : b.K = K) (hn0 : ∀ a, N0 a → H a ≠ none) (hr : Room 0 (A.deeper (envOfC "_law_mix" (defScope (top 48)) s.heap.objs.size f cdv))) : PSst (mkC b N0 [] H) (cxOf (L2.CX P w) P w K mg base ["one", "two", "first", "second"] "_law_mix" (defScope (top 48)) f cdv A outer s H E) (defBody (top 48)) (t__law_mix ) := by
  have nd := sc__law_mix.nd
  exact ss_cons (st_set 2 ((et_op ot_mod (et_callTy ct_int (by rfl) g_int (by decide +kernel) (at_cons ((et_op ot_add (et_op ot_add (et_op ot_mul (et_var 0) (et_int)) (et_op ot_mul (et_var 1) (et_int))) (et_int)).tob) (at_nil))) (et_int)).tor) (hN := nd)) (
  ss_cons (st_set 3 ((et_op ot_mod (et_callTy ct_int (by rfl) g_int (by decide +kernel) (at_cons ((et_op ot_add (et_op ot_add (et_op ot_add (et_op ot_mul (et_var 2) (et_var 2)) (et_op ot_mul (et_int) (et_var 2))) (et_op ot_mul (et_var 1) (et_int))) (et_int)).tob) (at_nil))) (et_int)).tor) (hN := nd)) (
  ss_one (st_ret (et_op ot_mod (et_callTy ct_int (by rfl) g_int (by decide +kernel) (at_cons ((et_op ot_add (et_op ot_add (et_op ot_div (et_op ot_mul (et_var 3) (et_var 3)) (et_int)) (et_op ot_mul (et_var 2) (et_int))) (et_var 1)).tob) (at_nil))) (et_int)))))
theorem sc__law_mixed : FnScope ["cell", "turn", "many", "number", "reach", "step"] ["cell", "turn", "many"] (defScope (top 49)) := ⟨rfl, rfl, rfl, by decide +kernel, rfl, by decide +kernel, by decide +kernel⟩
theorem p__law_mixed {SP__law_mix : TSp} (d__law_mix : CalD P w K mg base 1 "_law_mix" 2 SP__law_mix) (g_range : mg "range" = none) (g_int : mg "int" = none) (cdv : Value) (A : Around) (outer : List Env) (s : Shared) (H : Hp) (E : XK) (b : B) (N0 : Addr → Prop) (hK : b.K = K) (hn0 : ∀ a, N0 a → H a ≠ none) (hr : Room 1 (A.deeper (envOfC "_law_mixed" (defScope (top 49)) s.heap.objs.size f cdv))) : PSst (mkC b N0 [] H) (cxOf (L2.CX P w) P w K mg base ["cell", "turn", "many", "number", "reach", "step"] "_law_mixed" (defScope (top 49)) f cdv A outer s H E) (defBody (top 49)) (t__law_mixed SP__law_mix) := by
  have nd := sc__law_mixed.nd
  exact ss_cons (st_set 3 ((et_callD d__law_mix (hr.mono (by decide)) (at_cons (et_var 0) (at_cons (et_var 1) (at_nil)))).tor) (hN := nd)) (
  ss_cons (st_set 4 ((et_int).tor) (hN := nd)) (
  ss_cons (st_for (it_range1 (et_int) g_range) (fun _ _ _ => gt_name 5 (hN := nd)) (fun _ _ _ => ss_cons (st_if (bt_cmp ot_ge (et_var 4) (et_op ot_mul (et_var 2) (et_int)) (by rfl)) (ss_one (st_break)) (ss_nil)) (
  ss_cons (st_set 3 ((et_op ot_add (et_op ot_mul (et_var 3) (et_int)) (et_callD d__law_mix (hr.mono (by decide)) (at_cons ((et_op ot_add (et_op ot_add (et_var 0) (et_op ot_mul (et_int) (et_var 5))) (et_int)).tob) (at_cons ((et_op ot_add (et_op ot_add (et_op ot_mul (et_var 1) (et_int)) (et_var 5)) (et_int)).tob) (at_nil))))).tor) (hN := nd)) (
  ss_one (st_set 4 ((et_op ot_mul (et_var 4) (et_int)).tor) (hN := nd)))))) (
  ss_one (st_ret (et_op ot_mod (et_callTy ct_int (by rfl) g_int (by decide +kernel) (at_cons (et_var 3) (at_nil))) (et_var 2))))))
theorem sc__law_store : FnScope ["script", "great", "cells", "seed", "cell"] ["script"] (defScope (top 50)) := ⟨rfl, rfl, rfl, by decide +kernel, rfl, by decide +kernel, by decide +kernel⟩
theorem p__law_store {SP__law_mix : TSp} (g_len : mg "len" = none) (g_int : mg "int" = none) (d__law_mix : CalD P w K mg base 1 "_law_mix" 2 SP__law_mix) (cdv : Value) (A : Around) (outer : List Env) (s : Shared) (H : Hp) (E : XK) (b : B) (N0 : Addr → Prop) (J : GRO b) (hK : b.K = K) (hn0 : ∀ a, N0 a → H a ≠ none) (hr : Room 1 (A.deeper (envOfC "_law_store" (defScope (top 50)) s.heap.objs.size f cdv))) : PSst (mkC b N0 [2] H) (cxOf (L2.CX P w) P w K mg base ["script", "great", "cells", "seed", "cell"] "_law_store" (defScope (top 50)) f cdv A outer s H E) (defBody (top 50)) (t__law_store J SP__law_mix) := by
  have nd := sc__law_store.nd
  exact ss_cons (st_set 1 ((et_op ot_pow (et_op ot_pow (et_int) (et_int)) (et_int)).tor) (hN := nd)) (
  ss_cons (st_own 2 (et_lst (at_nil)) (hN := nd)) (
  ss_cons (st_set 3 ((et_op ot_add (et_int) (et_op ot_mul (et_int) (et_rlen (et_var 0) g_len))).tor) (hN := nd)) (
  ss_cons (st_for (it_ro (src_var 0)) (fun _ _ _ => gt_name 4 (hN := nd)) (fun _ _ _ => ss_cons (st_set 3 ((et_callD d__law_mix (hr.mono (by decide)) (at_cons ((et_op ot_mod (et_callTy ct_int (by rfl) g_int (by decide +kernel) (at_cons (et_var 4) (at_nil))) (et_int)).tob) (at_cons (et_var 3) (at_nil)))).tor) (hN := nd)) (
  ss_one (st_if (bt_cmp ot_ge (et_var 4) (et_op ot_pow (et_int) (et_int)) (by rfl)) (ss_one (st_app 2 ((et_lst (at_cons ((et_op ot_mod (et_callTy ct_int (by rfl) g_int (by decide +kernel) (at_cons (et_var 4) (at_nil))) (et_var 1)).tor) (at_cons ((et_neg (et_int)).tor) (at_nil)))).tor))) (ss_one (st_if (bt_cmp ot_le (et_var 4) (et_neg (et_op ot_pow (et_int) (et_int))) (by rfl)) (ss_one (st_app 2 ((et_lst (at_cons ((et_op ot_mod (et_callTy ct_int (by rfl) g_int (by decide +kernel) (at_cons ((et_op ot_sub (et_neg (et_int)) (et_var 4)).tob) (at_nil))) (et_var 1)).tor) (at_cons ((et_neg (et_int)).tor) (at_nil)))).tor))) (ss_one (st_app 2 ((et_lst (at_cons ((et_var 4).chk.tor) (at_cons ((et_int).tor) (at_nil)))).tor))))))))) (
  ss_one (st_retGive 2 (at_cons ((et_int).tor) (at_cons ((et_int).tor) (at_cons ((et_var 3).chk.tor) (at_nil)))) (hn0 := hn0))))))
theorem sc__law_take : FnScope ["store", "many", "cells", "first", "spot", "entry", "number"] ["store", "many"] (defScope (top 51)) := ⟨rfl, rfl, rfl, by decide +kernel, rfl, by decide +kernel, by decide +kernel⟩
theorem p__law_take {SP__law_mixed : TSp} (g_len : mg "len" = none) (g_range : mg "range" = none) (g_int : mg "int" = none) (d__law_mixed : CalD P w K mg base 2 "_law_mixed" 3 SP__law_mixed) (cdv : Value) (A : Around) (outer : List Env) (s : Shared) (H : Hp) (E : XK) (b : B) (N0 : Addr → Prop) (I : GLI b) (hK : b.K = K) (hn0 : ∀ a, N0 a → H a ≠ none) (hr : Room 2 (A.deeper (envOfC "_law_take" (defScope (top 51)) s.heap.objs.size f cdv))) : PSst (mkC b N0 [] H) (cxOf (L2.CX P w) P w K mg base ["store", "many", "cells", "first", "spot", "entry", "number"] "_law_take" (defScope (top 51)) f cdv A outer s H E) (defBody (top 51)) (t__law_take I SP__law_mixed) := by
  have nd := sc__law_take.nd
  exact ss_cons (st_if (bt_cmp ot_lt (et_var 1) (et_int) (by rfl)) (ss_one (st_ret (et_int))) (ss_nil)) (
  ss_cons (st_gset 0 (et_int) (et_op ot_add (et_gix (et_var 0) (et_int)) (et_int))) (
  ss_cons (st_set 2 ((et_gix (et_var 0) (et_int)).tor) (hN := nd)) (
  ss_cons (st_set 3 ((et_gix (et_var 0) (et_int)).tor) (hN := nd)) (
  ss_cons (st_for (it_range2 (et_var 3) (et_glen (et_var 2) g_len) g_range) (fun _ _ _ => gt_name 4 (hN := nd)) (fun _ _ _ => ss_cons (st_set 5 ((et_gix (et_var 2) (et_var 4)).tor) (hN := nd)) (
  ss_cons (st_if (.of (wt_and (bt_cmp ot_lt (et_gix (et_var 5) (et_int)) (et_int) (by rfl)) (wt_and1 (bt_cmp ot_gt (et_gix (et_var 5) (et_int)) (et_int) (by rfl))))) (ss_cons (st_set 6 ((et_op ot_mod (et_callTy ct_int (by rfl) g_int (by decide +kernel) (at_cons ((et_gix (et_var 5) (et_int)).tob) (at_nil))) (et_var 1)).tor) (hN := nd)) (
  ss_cons (st_gset 5 (et_int) (et_op ot_div (et_gix (et_var 5) (et_int)) (et_var 1))) (
  ss_one (st_ret ((et_var 6).chk))))) (ss_nil)) (
  ss_cons (st_if (bt_cmp ot_gt (et_gix (et_var 5) (et_int)) (et_int) (by rfl)) (ss_cons (st_gset 5 (et_int) (et_op ot_sub (et_gix (et_var 5) (et_int)) (et_int))) (
  ss_one (st_ret (et_callD d__law_mixed (hr.mono (by decide)) (at_cons ((et_gix (et_var 5) (et_int)).tob) (at_cons ((et_gix (et_var 0) (et_int)).tob) (at_cons (et_var 1) (at_nil)))))))) (ss_nil)) (
  ss_one (st_gset 0 (et_int) (et_op ot_add (et_var 4) (et_int)))))))) (
  ss_one (st_ret (et_callD d__law_mixed (hr.mono (by decide)) (at_cons ((et_gix (et_var 0) (et_int)).tob) (at_cons ((et_gix (et_var 0) (et_int)).tob) (at_cons (et_var 1) (at_nil)))))))))))
theorem sc__law_pick : FnScope ["store", "row"] ["store", "row"] (defScope (top 52)) := ⟨rfl, rfl, rfl, by decide +kernel, rfl, by decide +kernel, by decide +kernel⟩
theorem p__law_pick {SP__law_take : TSp} (g_len : mg "len" = none) (d__law_take : CalD P w K mg base 3 "_law_take" 2 SP__law_take) (cdv : Value) (A : Around) (outer : List Env) (s : Shared) (H : Hp) (E : XK) (b : B) (N0 : Addr → Prop) (hK : b.K = K) (hn0 : ∀ a, N0 a → H a ≠ none) (hr : Room 3 (A.deeper (envOfC "_law_pick" (defScope (top 52)) s.heap.objs.size f cdv))) : PSst (mkC b N0 [] H) (cxOf (L2.CX P w) P w K mg base ["store", "row"] "_law_pick" (defScope (top 52)) f cdv A outer s H E) (defBody (top 52)) (t__law_pick SP__law_take) := by
  have nd := sc__law_pick.nd
  exact ss_one (st_ret ((et_ix (et_var 1) (et_callD d__law_take (hr.mono (by decide)) (at_cons (et_var 0) (at_cons ((et_callB ct_len (by rfl) g_len (by rfl) (at_cons (et_var 1) (at_nil))).tob) (at_nil))))).chk))
theorem sc__law_near : FnScope ["store", "low", "high", "free"] ["store", "low", "high"] (defScope (top 53)) := ⟨rfl, rfl, rfl, by decide +kernel, rfl, by decide +kernel, by decide +kernel⟩
theorem p__law_near {SP__law_take SP__law_pick : TSp} (d__law_take : CalD P w K mg base 3 "_law_take" 2 SP__law_take) (g_max : mg "max" = none) (g_min : mg "min" = none) (d__law_pick : CalD P w K mg base 4 "_law_pick" 2 SP__law_pick) (cdv : Value) (A : Around) (outer : List Env) (s : Shared) (H : Hp) (E : XK) (b : B) (N0 : Addr → Prop) (hK : b.K = K) (hn0 : ∀ a, N0 a → H a ≠ none) (hr : Room 4 (A.deeper (envOfC "_law_near" (defScope (top 53)) s.heap.objs.size f cdv))) : PSst (mkC b N0 [] H) (cxOf (L2.CX P w) P w K mg base ["store", "low", "high", "free"] "_law_near" (defScope (top 53)) f cdv A outer s H E) (defBody (top 53)) (t__law_near SP__law_take SP__law_pick) := by
  have nd := sc__law_near.nd
  exact ss_cons (st_set 3 ((et_op ot_add (et_var 1) (et_callD d__law_take (hr.mono (by decide)) (at_cons (et_var 0) (at_cons ((et_op ot_add (et_op ot_sub (et_var 2) (et_var 1)) (et_int)).tob) (at_nil))))).tor) (hN := nd)) (
  ss_one (st_ret (et_callD d__law_pick (hr.mono (by decide)) (at_cons (et_var 0) (at_cons ((et_lst (at_cons ((et_var 1).chk.tor) (at_cons ((et_var 2).chk.tor) (at_cons ((et_callB ct_min (by rfl) g_min (by rfl) (at_cons ((et_op ot_add (et_var 1) (et_int)).tob) (at_cons (et_var 2) (at_nil)))).tor) (at_cons ((et_callB ct_max (by rfl) g_max (by rfl) (at_cons ((et_op ot_sub (et_var 2) (et_int)).tob) (at_cons (et_var 1) (at_nil)))).tor) (at_cons ((et_var 3).chk.tor) (at_cons ((et_var 3).chk.tor) (at_cons ((et_var 3).chk.tor) (at_cons ((et_var 3).chk.tor) (at_nil)))))))))).tob) (at_nil))))))
theorem sc__law_tones : FnScope ["store", "span", "signs", "slots", "spot", "mask", "k", "length"] ["store", "span"] (defScope (top 54)) := ⟨rfl, rfl, rfl, by decide +kernel, rfl, by decide +kernel, by decide +kernel⟩
theorem p__law_tones {SP__law_take SP__law_pick : TSp} (g_range : mg "range" = none) (d__law_take : CalD P w K mg base 3 "_law_take" 2 SP__law_take) (g_int : mg "int" = none) (g_tuple : mg "tuple" = none) (d__law_pick : CalD P w K mg base 4 "_law_pick" 2 SP__law_pick) (cdv : Value) (A : Around) (outer : List Env) (s : Shared) (H : Hp) (E : XK) (b : B) (N0 : Addr → Prop) (hK : b.K = K) (hn0 : ∀ a, N0 a → H a ≠ none) (hr : Room 4 (A.deeper (envOfC "_law_tones" (defScope (top 54)) s.heap.objs.size f cdv))) : PSst (mkC b N0 [3] H) (cxOf (L2.CX P w) P w K mg base ["store", "span", "signs", "slots", "spot", "mask", "k", "length"] "_law_tones" (defScope (top 54)) f cdv A outer s H E) (defBody (top 54)) (t__law_tones SP__law_take SP__law_pick) := by
  have nd := sc__law_tones.nd
  exact ss_cons (st_set 2 ((et_lst (at_cons ((et_str).tor) (at_cons ((et_str).tor) (at_cons ((et_str).tor) (at_cons ((et_str).tor) (at_cons ((et_str).tor) (at_cons ((et_str).tor) (at_cons ((et_str).tor) (at_cons ((et_str).tor) (at_cons ((et_str).tor) (at_cons ((et_str).tor) (at_cons ((et_str).tor) (at_cons ((et_str).tor) (at_nil)))))))))))))).tor) (hN := nd)) (
  ss_cons (st_own 3 (et_lst (at_nil)) (hN := nd)) (
  ss_cons (st_for (it_range1 (et_var 1) g_range) (fun _ _ _ => gt_name 4 (hN := nd)) (fun _ _ _ => ss_cons (st_set 5 ((et_op ot_and (et_callD d__law_take (hr.mono (by decide)) (at_cons (et_var 0) (at_cons ((et_int).tob) (at_nil)))) (et_callD d__law_take (hr.mono (by decide)) (at_cons (et_var 0) (at_cons ((et_int).tob) (at_nil))))).tor) (hN := nd)) (
  ss_one (st_app 3 ((et_callTy ct_tuple (by rfl) g_tuple (by decide +kernel) (at_cons ((et_lc ((LcParts.mk (it_range1 (et_int) g_range) (fun _ _ _ _ _ _ _ _ => gt_name 6 (hN := nd)) (fun _ _ _ _ _ _ _ _ => tt_one (bt_cmp ot_eq (et_op ot_mod (et_callTy ct_int (by rfl) g_int (by decide +kernel) (at_cons ((et_op ot_shr (et_var 5) (et_var 6)).tob) (at_nil))) (et_int)) (et_int) (by rfl))) (fun _ _ _ _ _ _ _ _ => et_ix (et_var 2) (et_var 6)) (by rfl) : LcParts _ _ [] _ _ _ _ _ (List.map (·.2) ([("k", 6)] : List (Str × Nat))) _ _ _ _)) (hb := by kernel_rfl) (hN := nd)).tob) (at_nil))).tor))))) (
  ss_cons (st_set 7 ((et_callD d__law_pick (hr.mono (by decide)) (at_cons (et_var 0) (at_cons ((et_lc ((LcParts.mk (it_range2 (et_int) (et_op ot_add (et_var 1) (et_int)) g_range) (fun _ _ _ _ _ _ _ _ => gt_name 6 (hN := nd)) (fun _ _ _ _ _ _ _ _ => tt_one (bt_cmp ot_eq (et_op ot_mod (et_callTy ct_int (by rfl) g_int (by decide +kernel) (at_cons (et_var 1) (at_nil))) (et_var 6)) (et_int) (by rfl))) (fun _ _ _ _ _ _ _ _ => (et_var 6).chk.tor) (by rfl) : LcParts _ _ [] _ _ _ _ _ (List.map (·.2) ([("k", 6)] : List (Str × Nat))) _ _ _ _)) (hb := by kernel_rfl) (hN := nd)).tob) (at_nil)))).tor) (hN := nd)) (
  ss_one (st_ret (et_op ot_mulT (et_callTy ct_tuple (by rfl) g_tuple (by decide +kernel) (at_cons ((et_slice (et_var 3) (ot_none) (ot_some (et_var 7))).tob) (at_nil))) (et_op ot_div (et_var 1) (et_var 7))))))))
theorem sc__law_bent_tone : FnScope ["store", "score", "at", "sign", "slot", "item"] ["store", "score"] (defScope (top 55)) := ⟨rfl, rfl, rfl, by decide +kernel, rfl, by decide +kernel, by decide +kernel⟩
theorem p__law_bent_tone {SP__law_take SP__law_pick : TSp} (g_len : mg "len" = none) (d__law_take : CalD P w K mg base 3 "_law_take" 2 SP__law_take) (d__law_pick : CalD P w K mg base 4 "_law_pick" 2 SP__law_pick) (g_int : mg "int" = none) (g_sorted : mg "sorted" = none) (g_tuple : mg "tuple" = none) (cdv : Value) (A : Around) (outer : List Env) (s : Shared) (H : Hp) (E : XK) (b : B) (N0 : Addr → Prop) (hK : b.K = K) (hn0 : ∀ a, N0 a → H a ≠ none) (hr : Room 4 (A.deeper (envOfC "_law_bent_tone" (defScope (top 55)) s.heap.objs.size f cdv))) : PSst (mkC b N0 [] H) (cxOf (L2.CX P w) P w K mg base ["store", "score", "at", "sign", "slot", "item"] "_law_bent_tone" (defScope (top 55)) f cdv A outer s H E) (defBody (top 55)) (t__law_bent_tone SP__law_take SP__law_pick) := by
  have nd := sc__law_bent_tone.nd
  exact ss_cons (st_set 2 ((et_callD d__law_take (hr.mono (by decide)) (at_cons (et_var 0) (at_cons ((et_callB ct_len (by rfl) g_len (by rfl) (at_cons (et_var 1) (at_nil))).tob) (at_nil)))).tor) (hN := nd)) (
  ss_cons (st_set 3 ((et_callD d__law_pick (hr.mono (by decide)) (at_cons (et_var 0) (at_cons ((et_lst (at_cons ((et_str).tor) (at_cons ((et_str).tor) (at_cons ((et_str).tor) (at_cons ((et_str).tor) (at_cons ((et_str).tor) (at_cons ((et_str).tor) (at_cons ((et_str).tor) (at_cons ((et_str).tor) (at_nil)))))))))).tob) (at_nil)))).tor) (hN := nd)) (
  ss_cons (st_set 4 ((et_callTy ct_tuple (by rfl) g_tuple (by decide +kernel) (at_cons ((et_callB ct_sortS (by rfl) g_sorted (by rfl) (at_cons ((et_op ot_add (et_lc ((LcParts.mk (it_any (src_val (et_ix (et_var 1) (et_var 2)))) (fun _ _ _ _ _ _ _ _ => gt_name 5 (hN := nd)) (fun _ _ _ _ _ _ _ _ => tt_one (bt_cmp ot_ne (et_var 5) (et_var 3) (by rfl))) (fun _ _ _ _ _ _ _ _ => (et_var 5).chk.tor) (by rfl) : LcParts _ _ [] _ _ _ _ _ (List.map (·.2) ([("item", 5)] : List (Str × Nat))) _ _ _ _)) (hb := by kernel_rfl) (hN := nd)) (et_op ot_mul (et_lst (at_cons ((et_var 3).chk.tor) (at_nil))) (et_callTy ct_int (by rfl) g_int (by decide +kernel) (at_cons ((et_cmp ot_notin (et_var 3) (et_ix (et_var 1) (et_var 2)) (by rfl)).tob) (at_nil))))).tob) (at_nil))).tob) (at_nil))).tor) (hN := nd)) (
  ss_one (st_ret (et_op ot_add (et_op ot_add (et_slice (et_var 1) (ot_none) (ot_some (et_var 2))) (et_tup (at_cons ((et_var 4).chk.tor) (at_nil)))) (et_slice (et_var 1) (ot_some (et_op ot_add (et_var 2) (et_int))) (ot_none)))))))
theorem sc__law_letters : FnScope ["store", "pool", "found", "k"] ["store"] (defScope (top 56)) := ⟨rfl, rfl, rfl, by decide +kernel, rfl, by decide +kernel, by decide +kernel⟩
theorem p__law_letters {SP__law_take : TSp} (g_list : mg "list" = none) (d__law_take : CalD P w K mg base 3 "_law_take" 2 SP__law_take) (g_range : mg "range" = none) (g_len : mg "len" = none) (cdv : Value) (A : Around) (outer : List Env) (s : Shared) (H : Hp) (E : XK) (b : B) (N0 : Addr → Prop) (hK : b.K = K) (hn0 : ∀ a, N0 a → H a ≠ none) (hr : Room 3 (A.deeper (envOfC "_law_letters" (defScope (top 56)) s.heap.objs.size f cdv))) : PSst (mkC b N0 [1] H) (cxOf (L2.CX P w) P w K mg base ["store", "pool", "found", "k"] "_law_letters" (defScope (top 56)) f cdv A outer s H E) (defBody (top 56)) (t__law_letters SP__law_take) := by
  have nd := sc__law_letters.nd
  exact ss_cons (st_own 1 (et_callTy ct_listS (by rfl) g_list (by decide +kernel) (at_cons ((et_str).tob) (at_nil))) (hN := nd)) (
  ss_cons (st_set 2 ((et_str).tor) (hN := nd)) (
  ss_cons (st_for (it_range1 (et_op ot_add (et_int) (et_callD d__law_take (hr.mono (by decide)) (at_cons (et_var 0) (at_cons ((et_int).tob) (at_nil))))) g_range) (fun _ _ _ => gt_name 3 (hN := nd)) (fun _ _ _ => ss_one (st_addPop 2 1 (et_callD d__law_take (hr.mono (by decide)) (at_cons (et_var 0) (at_cons ((et_callB ct_len (by rfl) g_len (by rfl) (at_cons (et_var 1) (at_nil))).tob) (at_nil)))) (hN := nd)))) (
  ss_one (st_ret ((et_var 2).chk)))))
theorem sc__law_wheel : FnScope ["store", "songs", "letters", "many", "kind", "rows", "q", "row", "k", "item"] ["store", "songs"] (defScope (top 57)) := ⟨rfl, rfl, rfl, by decide +kernel, rfl, by decide +kernel, by decide +kernel⟩
theorem p__law_wheel {SP__law_letters SP__law_near SP__law_take : TSp} (d__law_letters : CalD P w K mg base 4 "_law_letters" 1 SP__law_letters) (d__law_near : CalD P w K mg base 5 "_law_near" 3 SP__law_near) (d__law_take : CalD P w K mg base 3 "_law_take" 2 SP__law_take) (g_range : mg "range" = none) (g_len : mg "len" = none) (g_int : mg "int" = none) (g_tuple : mg "tuple" = none) (cdv : Value) (A : Around) (outer : List Env) (s : Shared) (H : Hp) (E : XK) (b : B) (N0 : Addr → Prop) (hK : b.K = K) (hn0 : ∀ a, N0 a → H a ≠ none) (hr : Room 5 (A.deeper (envOfC "_law_wheel" (defScope (top 57)) s.heap.objs.size f cdv))) : PSst (mkC b N0 [5, 7] H) (cxOf (L2.CX P w) P w K mg base ["store", "songs", "letters", "many", "kind", "rows", "q", "row", "k", "item"] "_law_wheel" (defScope (top 57)) f cdv A outer s H E) (defBody (top 57)) (t__law_wheel SP__law_letters SP__law_near SP__law_take) := by
  have nd := sc__law_wheel.nd
  exact ss_cons (st_set 2 ((et_callD d__law_letters (hr.mono (by decide)) (at_cons (et_var 0) (at_nil))).tor) (hN := nd)) (
  ss_cons (st_set 3 ((et_callD d__law_near (hr.mono (by decide)) (at_cons (et_var 0) (at_cons ((et_int).tob) (at_cons ((et_int).tob) (at_nil))))).tor) (hN := nd)) (
  ss_cons (st_set 4 ((et_callD d__law_take (hr.mono (by decide)) (at_cons (et_var 0) (at_cons ((et_int).tob) (at_nil)))).tor) (hN := nd)) (
  ss_cons (st_own 5 (et_lst (at_nil)) (hN := nd)) (
  ss_cons (st_for (it_range1 (et_var 3) g_range) (fun _ _ _ => gt_name 6 (hN := nd)) (fun _ _ _ => ss_cons (st_own 7 (et_lst (at_nil)) (hN := nd)) (
  ss_cons (st_for (it_range1 (et_callB ct_len (by rfl) g_len (by rfl) (at_cons (et_var 2) (at_nil))) g_range) (fun _ _ _ => gt_name 8 (hN := nd)) (fun _ _ _ => ss_cons (st_set 9 ((et_tup (at_cons ((et_callD d__law_take (hr.mono (by decide)) (at_cons (et_var 0) (at_cons (et_var 3) (at_nil)))).tor) (at_cons ((et_callD d__law_take (hr.mono (by decide)) (at_cons (et_var 0) (at_cons (et_var 1) (at_nil)))).tor) (at_cons ((et_op ot_add (et_int) (et_callD d__law_take (hr.mono (by decide)) (at_cons (et_var 0) (at_cons ((et_int).tob) (at_nil))))).tor) (at_nil))))).tor) (hN := nd)) (
  ss_cons (st_if (bt_cmp ot_eq (et_callD d__law_take (hr.mono (by decide)) (at_cons (et_var 0) (at_cons ((et_int).tob) (at_nil)))) (et_int) (by rfl)) (ss_one (st_set 9 ((et_tup (at_cons (et_ix (et_var 9) (et_int)) (at_cons ((et_neg (et_int)).tor) (at_cons ((et_int).tor) (at_nil))))).tor) (hN := nd))) (ss_nil)) (
  ss_cons (st_if (.of (wt_or (bt_cmp ot_eq (et_var 4) (et_int) (by rfl)) (wt_or1 (.of (wt_and (bt_cmp ot_eq (et_var 4) (et_int) (by rfl)) (wt_and1 (bt_cmp ot_lt (et_op ot_add (et_var 6) (et_int)) (et_var 3) (by rfl)))))))) (ss_one (st_set 9 ((et_op ot_add (et_tup (at_cons ((et_op ot_mod (et_callTy ct_int (by rfl) g_int (by decide +kernel) (at_cons ((et_op ot_add (et_var 6) (et_int)).tob) (at_nil))) (et_var 3)).tor) (at_nil))) (et_slice (et_var 9) (ot_some (et_int)) (ot_none))).tor) (hN := nd))) (ss_nil)) (
  ss_cons (st_if (.of (wt_and (bt_cmp ot_gt (et_var 6) (et_int) (by rfl)) (wt_and1 (.of (wt_or (bt_cmp ot_eq (et_var 4) (et_int) (by rfl)) (wt_or1 (.of (wt_and (bt_cmp ot_eq (et_var 4) (et_int) (by rfl)) (wt_and1 (bt_cmp ot_lt (et_op ot_add (et_var 6) (et_int)) (et_var 3) (by rfl))))))))))) (ss_one (st_set 9 ((et_op ot_add (et_tup (at_cons (et_ix (et_var 9) (et_int)) (at_nil))) (et_slice (et_ix (et_ix (et_var 5) (et_int)) (et_var 8)) (ot_some (et_int)) (ot_none))).tor) (hN := nd))) (ss_nil)) (
  ss_one (st_app 7 ((et_var 9).chk.tor)))))))) (
  ss_one (st_app 5 ((et_callTy ct_tuple (by rfl) g_tuple (by decide +kernel) (at_cons (et_var 7) (at_nil))).tor)))))) (
  ss_one (st_ret (et_tup (at_cons ((et_var 2).chk.tor) (at_cons ((et_callTy ct_tuple (by rfl) g_tuple (by decide +kernel) (at_cons (et_var 5) (at_nil))).tor) (at_nil))))))))))
theorem sc__law_delayed : FnScope ["score", "shift", "span", "k"] ["score", "shift"] (defScope (top 58)) := ⟨rfl, rfl, rfl, by decide +kernel, rfl, by decide +kernel, by decide +kernel⟩
theorem p__law_delayed (g_len : mg "len" = none) (g_range : mg "range" = none) (g_int : mg "int" = none) (g_tuple : mg "tuple" = none) (cdv : Value) (A : Around) (outer : List Env) (s : Shared) (H : Hp) (E : XK) (b : B) (N0 : Addr → Prop) (hK : b.K = K) (hn0 : ∀ a, N0 a → H a ≠ none) (hr : Room 0 (A.deeper (envOfC "_law_delayed" (defScope (top 58)) s.heap.objs.size f cdv))) : PSst (mkC b N0 [] H) (cxOf (L2.CX P w) P w K mg base ["score", "shift", "span", "k"] "_law_delayed" (defScope (top 58)) f cdv A outer s H E) (defBody (top 58)) (t__law_delayed ) := by
  have nd := sc__law_delayed.nd
  exact ss_cons (st_set 2 ((et_callB ct_len (by rfl) g_len (by rfl) (at_cons (et_var 0) (at_nil))).tor) (hN := nd)) (
  ss_one (st_ret (et_callTy ct_tuple (by rfl) g_tuple (by decide +kernel) (at_cons ((et_lc ((LcParts.mk (it_range1 (et_var 2) g_range) (fun _ _ _ _ _ _ _ _ => gt_name 3 (hN := nd)) (fun _ _ _ _ _ _ _ _ => tt_nil) (fun _ _ _ _ _ _ _ _ => et_ix (et_var 0) (et_op ot_mod (et_callTy ct_int (by rfl) g_int (by decide +kernel) (at_cons ((et_op ot_sub (et_var 3) (et_var 1)).tob) (at_nil))) (et_var 2))) (by rfl) : LcParts _ _ [] _ _ _ _ _ (List.map (·.2) ([("k", 3)] : List (Str × Nat))) _ _ _ _)) (hb := by kernel_rfl) (hN := nd)).tob) (at_nil)))))
theorem sc__law_chimes : FnScope ["store", "songs", "span", "letters", "phases", "scores", "k", "delayed_in", "bent"] ["store"] (defScope (top 59)) := ⟨rfl, rfl, rfl, by decide +kernel, rfl, by decide +kernel, by decide +kernel⟩
theorem p__law_chimes {SP__law_near SP__law_pick SP__law_wheel SP__law_tones SP__law_take SP__law_delayed SP__law_bent_tone : TSp} (d__law_near : CalD P w K mg base 5 "_law_near" 3 SP__law_near) (d__law_pick : CalD P w K mg base 4 "_law_pick" 2 SP__law_pick) (d__law_wheel : CalD P w K mg base 6 "_law_wheel" 2 SP__law_wheel) (g_range : mg "range" = none) (d__law_tones : CalD P w K mg base 5 "_law_tones" 2 SP__law_tones) (d__law_take : CalD P w K mg base 3 "_law_take" 2 SP__law_take) (d__law_delayed : CalD P w K mg base 1 "_law_delayed" 2 SP__law_delayed) (d__law_bent_tone : CalD P w K mg base 5 "_law_bent_tone" 2 SP__law_bent_tone) (g_tuple : mg "tuple" = none) (cdv : Value) (A : Around) (outer : List Env) (s : Shared) (H : Hp) (E : XK) (b : B) (N0 : Addr → Prop) (hK : b.K = K) (hn0 : ∀ a, N0 a → H a ≠ none) (hr : Room 6 (A.deeper (envOfC "_law_chimes" (defScope (top 59)) s.heap.objs.size f cdv))) : PSst (mkC b N0 [5] H) (cxOf (L2.CX P w) P w K mg base ["store", "songs", "span", "letters", "phases", "scores", "k", "delayed_in", "bent"] "_law_chimes" (defScope (top 59)) f cdv A outer s H E) (defBody (top 59)) (t__law_chimes SP__law_near SP__law_pick SP__law_wheel SP__law_tones SP__law_take SP__law_delayed SP__law_bent_tone) := by
  have nd := sc__law_chimes.nd
  exact ss_cons (st_set 1 ((et_callD d__law_near (hr.mono (by decide)) (at_cons (et_var 0) (at_cons ((et_int).tob) (at_cons ((et_int).tob) (at_nil))))).tor) (hN := nd)) (
  ss_cons (st_set 2 ((et_callD d__law_near (hr.mono (by decide)) (at_cons (et_var 0) (at_cons ((et_int).tob) (at_cons ((et_callD d__law_pick (hr.mono (by decide)) (at_cons (et_var 0) (at_cons ((et_lst (at_cons ((et_int).tor) (at_cons ((et_int).tor) (at_cons ((et_int).tor) (at_cons ((et_int).tor) (at_nil)))))).tob) (at_nil)))).tob) (at_nil))))).tor) (hN := nd)) (
  ss_cons (st_asg ((et_callD d__law_wheel (hr.mono (by decide)) (at_cons (et_var 0) (at_cons (et_var 1) (at_nil)))).tor) (gt_tup (gt_cons (gt_name 3 (hN := nd)) (gt_cons (gt_name 4 (hN := nd)) (gt_nil))))) (
  ss_cons (st_setLc 5 ((LcParts.mk (it_range1 (et_var 1) g_range) (fun _ _ _ _ _ _ _ _ => gt_name 6 (hN := nd)) (fun _ _ _ _ _ _ _ _ => tt_nil) (fun _ _ _ _ _ _ _ _ => (et_callD d__law_tones (hr.mono (by decide)) (at_cons (et_var 0) (at_cons (et_var 2) (at_nil)))).tor) (by rfl) : LcParts _ _ [] _ _ _ _ _ (List.map (·.2) ([("k", 6)] : List (Str × Nat))) _ _ _ _)) (hb := by kernel_rfl) (hN := nd)) (
  ss_cons (st_for (it_range2 (et_int) (et_var 1) g_range) (fun _ _ _ => gt_name 6 (hN := nd)) (fun _ _ _ => ss_cons (st_set 7 ((et_callD d__law_delayed (hr.mono (by decide)) (at_cons ((et_ix (et_var 5) (et_int)).tob) (at_cons ((et_callD d__law_take (hr.mono (by decide)) (at_cons (et_var 0) (at_cons (et_var 2) (at_nil)))).tob) (at_nil)))).tor) (hN := nd)) (
  ss_cons (st_set 8 ((et_callD d__law_bent_tone (hr.mono (by decide)) (at_cons (et_var 0) (at_cons ((et_ix (et_var 5) (et_op ot_sub (et_var 6) (et_int))).tob) (at_nil)))).tor) (hN := nd)) (
  ss_one (st_seti 5 (et_var 6) ((et_callD d__law_pick (hr.mono (by decide)) (at_cons (et_var 0) (at_cons ((et_lst (at_cons (et_ix (et_var 5) (et_var 6)) (at_cons (et_ix (et_var 5) (et_var 6)) (at_cons (et_ix (et_var 5) (et_op ot_sub (et_var 6) (et_int))) (at_cons ((et_var 7).chk.tor) (at_cons ((et_var 8).chk.tor) (at_nil))))))).tob) (at_nil)))).tor)))))) (
  ss_one (st_ret (et_tup (at_cons ((et_var 3).chk.tor) (at_cons ((et_var 4).chk.tor) (at_cons ((et_callTy ct_tuple (by rfl) g_tuple (by decide +kernel) (at_cons (et_var 5) (at_nil))).tor) (at_nil)))))))))))
theorem sc__law_twinned : FnScope ["store", "phases", "rows", "first", "q", "heads", "item", "k", "shift", "order", "found", "row"] ["store", "phases"] (defScope (top 60)) := ⟨rfl, rfl, rfl, by decide +kernel, rfl, by decide +kernel, by decide +kernel⟩
theorem p__law_twinned {SP__law_take : TSp} (g_list : mg "list" = none) (g_len : mg "len" = none) (d__law_take : CalD P w K mg base 3 "_law_take" 2 SP__law_take) (g_range : mg "range" = none) (g_int : mg "int" = none) (g_tuple : mg "tuple" = none) (cdv : Value) (A : Around) (outer : List Env) (s : Shared) (H : Hp) (E : XK) (b : B) (N0 : Addr → Prop) (hK : b.K = K) (hn0 : ∀ a, N0 a → H a ≠ none) (hr : Room 3 (A.deeper (envOfC "_law_twinned" (defScope (top 60)) s.heap.objs.size f cdv))) : PSst (mkC b N0 [2, 10] H) (cxOf (L2.CX P w) P w K mg base ["store", "phases", "rows", "first", "q", "heads", "item", "k", "shift", "order", "found", "row"] "_law_twinned" (defScope (top 60)) f cdv A outer s H E) (defBody (top 60)) (t__law_twinned SP__law_take) := by
  have nd := sc__law_twinned.nd
  exact ss_cons (st_own 2 (et_callTy ct_list (by rfl) g_list (by decide +kernel) (at_cons (et_var 1) (at_nil))) (hN := nd)) (
  ss_cons (st_if (.of (wt_and (bt_cmp ot_lt (et_callB ct_len (by rfl) g_len (by rfl) (at_cons (et_var 2) (at_nil))) (et_int) (by rfl)) (wt_and1 (bt_cmp ot_gt (et_callD d__law_take (hr.mono (by decide)) (at_cons (et_var 0) (at_cons ((et_int).tob) (at_nil)))) (et_int) (by rfl))))) (ss_cons (st_set 3 ((et_callD d__law_take (hr.mono (by decide)) (at_cons (et_var 0) (at_cons ((et_callB ct_len (by rfl) g_len (by rfl) (at_cons (et_var 2) (at_nil))).tob) (at_nil)))).tor) (hN := nd)) (
  ss_cons (st_app 2 (et_ix (et_var 2) (et_var 3))) (
  ss_one (st_for (it_range1 (et_callB ct_len (by rfl) g_len (by rfl) (at_cons (et_var 2) (at_nil))) g_range) (fun _ _ _ => gt_name 4 (hN := nd)) (fun _ _ _ => ss_cons (st_set 5 ((et_lc ((LcParts.mk (it_any (src_val (et_ix (et_var 2) (et_var 4)))) (fun _ _ _ _ _ _ _ _ => gt_name 6 (hN := nd)) (fun _ _ _ _ _ _ _ _ => tt_nil) (fun _ _ _ _ _ _ _ _ => et_ix (et_lst (at_cons (et_ix (et_var 6) (et_int)) (at_cons ((et_op ot_sub (et_callB ct_len (by rfl) g_len (by rfl) (at_cons (et_var 2) (at_nil))) (et_int)).tor) (at_nil)))) (et_op ot_mul (et_callTy ct_int (by rfl) g_int (by decide +kernel) (at_cons ((et_cmp ot_eq (et_ix (et_var 6) (et_int)) (et_var 3) (by rfl)).tob) (at_nil))) (et_callD d__law_take (hr.mono (by decide)) (at_cons (et_var 0) (at_cons ((et_int).tob) (at_nil)))))) (by rfl) : LcParts _ _ [] _ _ _ _ _ (List.map (·.2) ([("item", 6)] : List (Str × Nat))) _ _ _ _)) (hb := by kernel_rfl) (hN := nd)).tor) (hN := nd)) (
  ss_one (st_seti 2 (et_var 4) ((et_callTy ct_tuple (by rfl) g_tuple (by decide +kernel) (at_cons ((et_lc ((LcParts.mk (it_range1 (et_callB ct_len (by rfl) g_len (by rfl) (at_cons (et_var 5) (at_nil))) g_range) (fun _ _ _ _ _ _ _ _ => gt_name 7 (hN := nd)) (fun _ _ _ _ _ _ _ _ => tt_nil) (fun _ _ _ _ _ _ _ _ => (et_op ot_add (et_tup (at_cons (et_ix (et_var 5) (et_var 7)) (at_nil))) (et_slice (et_ix (et_ix (et_var 2) (et_var 4)) (et_var 7)) (ot_some (et_int)) (ot_none))).tor) (by rfl) : LcParts _ _ [] _ _ _ _ _ (List.map (·.2) ([("k", 7)] : List (Str × Nat))) _ _ _ _)) (hb := by kernel_rfl) (hN := nd)).tob) (at_nil))).tor)))))))) (ss_nil)) (
  ss_cons (st_set 8 ((et_callD d__law_take (hr.mono (by decide)) (at_cons (et_var 0) (at_cons ((et_callB ct_len (by rfl) g_len (by rfl) (at_cons (et_var 2) (at_nil))).tob) (at_nil)))).tor) (hN := nd)) (
  ss_cons (st_set 9 ((et_op ot_add (et_lst (at_cons ((et_int).tor) (at_nil))) (et_lc ((LcParts.mk (it_range1 (et_op ot_sub (et_callB ct_len (by rfl) g_len (by rfl) (at_cons (et_var 2) (at_nil))) (et_int)) g_range) (fun _ _ _ _ _ _ _ _ => gt_name 7 (hN := nd)) (fun _ _ _ _ _ _ _ _ => tt_nil) (fun _ _ _ _ _ _ _ _ => (et_op ot_add (et_int) (et_op ot_mod (et_callTy ct_int (by rfl) g_int (by decide +kernel) (at_cons ((et_op ot_add (et_var 7) (et_var 8)).tob) (at_nil))) (et_op ot_sub (et_callB ct_len (by rfl) g_len (by rfl) (at_cons (et_var 2) (at_nil))) (et_int)))).tor) (by rfl) : LcParts _ _ [] _ _ _ _ _ (List.map (·.2) ([("k", 7)] : List (Str × Nat))) _ _ _ _)) (hb := by kernel_rfl) (hN := nd))).tor) (hN := nd)) (
  ss_cons (st_setLc 10 ((LcParts.mk (it_any (src_var 2)) (fun _ _ _ _ _ _ _ _ => gt_name 11 (hN := nd)) (fun _ _ _ _ _ _ _ _ => tt_nil) (fun _ _ _ _ _ _ _ _ => (et_tup (at_nil)).tor) (by rfl) : LcParts _ _ [2] _ _ _ _ _ (List.map (·.2) ([("row", 11)] : List (Str × Nat))) _ _ _ _)) (hb := by kernel_rfl) (hN := nd)) (
  ss_cons (st_for (it_range1 (et_callB ct_len (by rfl) g_len (by rfl) (at_cons (et_var 2) (at_nil))) g_range) (fun _ _ _ => gt_name 4 (hN := nd)) (fun _ _ _ => ss_one (st_seti 10 (et_ix (et_var 9) (et_var 4)) ((et_callTy ct_tuple (by rfl) g_tuple (by decide +kernel) (at_cons ((et_lc ((LcParts.mk (it_any (src_val (et_ix (et_var 2) (et_var 4)))) (fun _ _ _ _ _ _ _ _ => gt_name 6 (hN := nd)) (fun _ _ _ _ _ _ _ _ => tt_nil) (fun _ _ _ _ _ _ _ _ => (et_op ot_add (et_tup (at_cons (et_ix (et_var 9) (et_ix (et_var 6) (et_int))) (at_nil))) (et_slice (et_var 6) (ot_some (et_int)) (ot_none))).tor) (by rfl) : LcParts _ _ [] _ _ _ _ _ (List.map (·.2) ([("item", 6)] : List (Str × Nat))) _ _ _ _)) (hb := by kernel_rfl) (hN := nd)).tob) (at_nil))).tor)))) (
  ss_one (st_ret (et_callTy ct_tuple (by rfl) g_tuple (by decide +kernel) (at_cons (et_var 10) (at_nil))))))))))
theorem sc__law_other : FnScope ["store", "letters", "phases", "scores", "kind", "rows", "told", "top", "row", "score", "x", "at", "q", "k", "item"] ["store", "letters", "phases", "scores"] (defScope (top 61)) := ⟨rfl, rfl, rfl, by decide +kernel, rfl, by decide +kernel, by decide +kernel⟩
theorem p__law_other {SP__law_take SP__law_twinned SP__law_wheel SP__law_tones SP__law_bent_tone : TSp} (d__law_take : CalD P w K mg base 3 "_law_take" 2 SP__law_take) (d__law_twinned : CalD P w K mg base 4 "_law_twinned" 2 SP__law_twinned) (g_list : mg "list" = none) (g_len : mg "len" = none) (d__law_wheel : CalD P w K mg base 6 "_law_wheel" 2 SP__law_wheel) (g_tuple : mg "tuple" = none) (d__law_tones : CalD P w K mg base 5 "_law_tones" 2 SP__law_tones) (g_int : mg "int" = none) (d__law_bent_tone : CalD P w K mg base 5 "_law_bent_tone" 2 SP__law_bent_tone) (cdv : Value) (A : Around) (outer : List Env) (s : Shared) (H : Hp) (E : XK) (b : B) (N0 : Addr → Prop) (hK : b.K = K) (hn0 : ∀ a, N0 a → H a ≠ none) (hr : Room 6 (A.deeper (envOfC "_law_other" (defScope (top 61)) s.heap.objs.size f cdv))) : PSst (mkC b N0 [6] H) (cxOf (L2.CX P w) P w K mg base ["store", "letters", "phases", "scores", "kind", "rows", "told", "top", "row", "score", "x", "at", "q", "k", "item"] "_law_other" (defScope (top 61)) f cdv A outer s H E) (defBody (top 61)) (t__law_other SP__law_take SP__law_twinned SP__law_wheel SP__law_tones SP__law_bent_tone) := by
  have nd := sc__law_other.nd
  exact ss_cons (st_set 4 ((et_callD d__law_take (hr.mono (by decide)) (at_cons (et_var 0) (at_cons ((et_int).tob) (at_nil)))).tor) (hN := nd)) (
  ss_cons (st_set 5 ((et_callD d__law_twinned (hr.mono (by decide)) (at_cons (et_var 0) (at_cons (et_var 2) (at_nil)))).tor) (hN := nd)) (
  ss_cons (st_own 6 (et_callTy ct_list (by rfl) g_list (by decide +kernel) (at_cons (et_var 3) (at_nil))) (hN := nd)) (
  ss_cons (st_set 7 ((et_op ot_sub (et_callB ct_len (by rfl) g_len (by rfl) (at_cons (et_var 3) (at_nil))) (et_int)).tor) (hN := nd)) (
  ss_cons (st_if (bt_cmp ot_eq (et_var 4) (et_int) (by rfl)) (ss_cons (st_set 5 (et_ix (et_callD d__law_wheel (hr.mono (by decide)) (at_cons (et_var 0) (at_cons ((et_callB ct_len (by rfl) g_len (by rfl) (at_cons (et_var 3) (at_nil))).tob) (at_nil)))) (et_int)) (hN := nd)) (
  ss_cons (st_set 5 ((et_callTy ct_tuple (by rfl) g_tuple (by decide +kernel) (at_cons ((et_lc ((LcParts.mk (it_any (src_var 5)) (fun _ _ _ _ _ _ _ _ => gt_name 8 (hN := nd)) (fun _ _ _ _ _ _ _ _ => tt_nil) (fun _ _ _ _ _ _ _ _ => (et_slice (et_op ot_mulT (et_var 8) (et_int)) (ot_none) (ot_some (et_callB ct_len (by rfl) g_len (by rfl) (at_cons (et_var 1) (at_nil))))).tor) (by rfl) : LcParts _ _ [5] _ _ _ _ _ (List.map (·.2) ([("row", 8)] : List (Str × Nat))) _ _ _ _)) (hb := by kernel_rfl) (hN := nd)).tob) (at_nil))).tor) (hN := nd)) (
  ss_one (st_setLc 6 ((LcParts.mk (it_any (src_var 3)) (fun _ _ _ _ _ _ _ _ => gt_name 9 (hN := nd)) (fun _ _ _ _ _ _ _ _ => tt_nil) (fun _ _ _ _ _ _ _ _ => (et_callD d__law_tones (hr.mono (by decide)) (at_cons (et_var 0) (at_cons ((et_callB ct_len (by rfl) g_len (by rfl) (at_cons ((et_ix (et_var 3) (et_int)).tob) (at_nil))).tob) (at_nil)))).tor) (by rfl) : LcParts _ _ [3] _ _ _ _ _ (List.map (·.2) ([("score", 9)] : List (Str × Nat))) _ _ _ _)) (hb := by kernel_rfl) (hN := nd))))) (ss_nil)) (
  ss_cons (st_if (bt_cmp ot_eq (et_var 4) (et_int) (by rfl)) (ss_cons (st_own 6 (et_rev (et_var 6)) (hN := nd)) (
  ss_one (st_set 5 ((et_callTy ct_tuple (by rfl) g_tuple (by decide +kernel) (at_cons ((et_lc ((LcParts.mk (it_any (src_var 5)) (fun _ _ _ _ _ _ _ _ => gt_name 8 (hN := nd)) (fun _ _ _ _ _ _ _ _ => tt_nil) (fun _ _ _ _ _ _ _ _ => (et_callTy ct_tuple (by rfl) g_tuple (by decide +kernel) (at_cons ((et_lc ((LcParts.mk (it_any (src_var 8)) (fun _ _ _ _ _ _ _ _ => gt_name 10 (hN := nd)) (fun _ _ _ _ _ _ _ _ => tt_nil) (fun _ _ _ _ _ _ _ _ => (et_tup (at_cons (et_ix (et_var 10) (et_int)) (at_cons (et_ix (et_lst (at_cons ((et_op ot_sub (et_var 7) (et_ix (et_var 10) (et_int))).tor) (at_cons ((et_neg (et_int)).tor) (at_nil)))) (et_callTy ct_int (by rfl) g_int (by decide +kernel) (at_cons ((et_cmp ot_lt (et_ix (et_var 10) (et_int)) (et_int) (by rfl)).tob) (at_nil)))) (at_cons (et_ix (et_var 10) (et_int)) (at_nil))))).tor) (by rfl) : LcParts _ _ [8] _ _ _ _ _ (List.map (·.2) ([("x", 10)] : List (Str × Nat))) _ _ _ _)) (hb := by kernel_rfl) (hN := nd)).tob) (at_nil))).tor) (by rfl) : LcParts _ _ [5] _ _ _ _ _ (List.map (·.2) ([("row", 8)] : List (Str × Nat))) _ _ _ _)) (hb := by kernel_rfl) (hN := nd)).tob) (at_nil))).tor) (hN := nd)))) (ss_nil)) (
  ss_cons (st_if (bt_cmp ot_eq (et_var 4) (et_int) (by rfl)) (ss_cons (st_set 11 ((et_callD d__law_take (hr.mono (by decide)) (at_cons (et_var 0) (at_cons ((et_callB ct_len (by rfl) g_len (by rfl) (at_cons (et_var 6) (at_nil))).tob) (at_nil)))).tor) (hN := nd)) (
  ss_one (st_seti 6 (et_var 11) ((et_callD d__law_bent_tone (hr.mono (by decide)) (at_cons (et_var 0) (at_cons ((et_ix (et_var 6) (et_var 11)).tob) (at_nil)))).tor)))) (ss_nil)) (
  ss_cons (st_if (bt_cmp ot_eq (et_var 4) (et_int) (by rfl)) (ss_cons (st_par 12 13 (at_cons ((et_callD d__law_take (hr.mono (by decide)) (at_cons (et_var 0) (at_cons ((et_callB ct_len (by rfl) g_len (by rfl) (at_cons (et_var 5) (at_nil))).tob) (at_nil)))).tor) (at_cons ((et_callD d__law_take (hr.mono (by decide)) (at_cons (et_var 0) (at_cons ((et_callB ct_len (by rfl) g_len (by rfl) (at_cons (et_var 1) (at_nil))).tob) (at_nil)))).tor) (at_nil))) (hN := nd)) (
  ss_cons (st_set 14 ((et_tup (at_cons ((et_callD d__law_take (hr.mono (by decide)) (at_cons (et_var 0) (at_cons ((et_callB ct_len (by rfl) g_len (by rfl) (at_cons (et_var 5) (at_nil))).tob) (at_nil)))).tor) (at_cons ((et_var 7).chk.tor) (at_cons ((et_op ot_add (et_int) (et_callD d__law_take (hr.mono (by decide)) (at_cons (et_var 0) (at_cons ((et_int).tob) (at_nil))))).tor) (at_nil))))).tor) (hN := nd)) (
  ss_one (st_set 5 ((et_op ot_add (et_op ot_add (et_slice (et_var 5) (ot_none) (ot_some (et_var 12))) (et_tup (at_cons ((et_op ot_add (et_op ot_add (et_slice (et_ix (et_var 5) (et_var 12)) (ot_none) (ot_some (et_var 13))) (et_tup (at_cons ((et_var 14).chk.tor) (at_nil)))) (et_slice (et_ix (et_var 5) (et_var 12)) (ot_some (et_op ot_add (et_var 13) (et_int))) (ot_none))).tor) (at_nil)))) (et_slice (et_var 5) (ot_some (et_op ot_add (et_var 12) (et_int))) (ot_none))).tor) (hN := nd))))) (ss_nil)) (
  ss_one (st_ret (et_tup (at_cons ((et_var 1).chk.tor) (at_cons ((et_var 5).chk.tor) (at_cons ((et_callTy ct_tuple (by rfl) g_tuple (by decide +kernel) (at_cons (et_var 6) (at_nil))).tor) (at_nil))))))))))))))
theorem sc__law_bells_in : FnScope ["store", "bell"] ["store"] (defScope (top 62)) := ⟨rfl, rfl, rfl, by decide +kernel, rfl, by decide +kernel, by decide +kernel⟩
theorem p__law_bells_in {SP__law_take : TSp} (d__law_take : CalD P w K mg base 3 "_law_take" 2 SP__law_take) (cdv : Value) (A : Around) (outer : List Env) (s : Shared) (H : Hp) (E : XK) (b : B) (N0 : Addr → Prop) (hK : b.K = K) (hn0 : ∀ a, N0 a → H a ≠ none) (hr : Room 3 (A.deeper (envOfC "_law_bells_in" (defScope (top 62)) s.heap.objs.size f cdv))) : PSst (mkC b N0 [] H) (cxOf (L2.CX P w) P w K mg base ["store", "bell"] "_law_bells_in" (defScope (top 62)) f cdv A outer s H E) (defBody (top 62)) (t__law_bells_in SP__law_take) := by
  have nd := sc__law_bells_in.nd
  exact ss_one (st_ret (et_join (et_str) (et_lc ((LcParts.mk (it_any (src_val (et_str))) (fun _ _ _ _ _ _ _ _ => gt_name 1 (hN := nd)) (fun _ _ _ _ _ _ _ _ => tt_one (bt_cmp ot_eq (et_callD d__law_take (hr.mono (by decide)) (at_cons (et_var 0) (at_cons ((et_int).tob) (at_nil)))) (et_int) (by rfl))) (fun _ _ _ _ _ _ _ _ => (et_var 1).chk.tor) (by rfl) : LcParts _ _ [] _ _ _ _ _ (List.map (·.2) ([("bell", 1)] : List (Str × Nat))) _ _ _ _)) (hb := by kernel_rfl) (hN := nd))))
theorem sc__law_heard : FnScope ["score", "bells", "found", "slot", "sign"] ["score", "bells"] (defScope (top 63)) := ⟨rfl, rfl, rfl, by decide +kernel, rfl, by decide +kernel, by decide +kernel⟩
theorem p__law_heard (g_len : mg "len" = none) (g_tuple : mg "tuple" = none) (cdv : Value) (A : Around) (outer : List Env) (s : Shared) (H : Hp) (E : XK) (b : B) (N0 : Addr → Prop) (hK : b.K = K) (hn0 : ∀ a, N0 a → H a ≠ none) (hr : Room 0 (A.deeper (envOfC "_law_heard" (defScope (top 63)) s.heap.objs.size f cdv))) : PSst (mkC b N0 [2] H) (cxOf (L2.CX P w) P w K mg base ["score", "bells", "found", "slot", "sign"] "_law_heard" (defScope (top 63)) f cdv A outer s H E) (defBody (top 63)) (t__law_heard ) := by
  have nd := sc__law_heard.nd
  exact ss_cons (st_own 2 (et_lst (at_nil)) (hN := nd)) (
  ss_cons (st_for (it_any (src_var 0)) (fun _ _ _ => gt_name 3 (hN := nd)) (fun _ _ _ => ss_one (st_app 2 ((et_join (et_str) (et_lc ((LcParts.mk (it_any (src_var 3)) (fun _ _ _ _ _ _ _ _ => gt_name 4 (hN := nd)) (fun _ _ _ _ _ _ _ _ => tt_one (.of (wt_and (bt_cmp ot_eq (et_callB ct_len (by rfl) g_len (by rfl) (at_cons (et_var 4) (at_nil))) (et_int) (by rfl)) (wt_and1 (bt_cmp ot_in (et_var 4) (et_var 1) (by rfl)))))) (fun _ _ _ _ _ _ _ _ => (et_var 4).chk.tor) (by rfl) : LcParts _ _ [3] _ _ _ _ _ (List.map (·.2) ([("sign", 4)] : List (Str × Nat))) _ _ _ _)) (hb := by kernel_rfl) (hN := nd))).tor)))) (
  ss_one (st_ret (et_callTy ct_tuple (by rfl) g_tuple (by decide +kernel) (at_cons (et_var 2) (at_nil))))))
theorem sc__law_heard_list : FnScope ["score", "bells", "verses_in", "row", "found", "k"] ["score", "bells", "verses_in"] (defScope (top 64)) := ⟨rfl, rfl, rfl, by decide +kernel, rfl, by decide +kernel, by decide +kernel⟩
theorem p__law_heard_list {SP__law_heard : TSp} (d__law_heard : CalD P w K mg base 1 "_law_heard" 2 SP__law_heard) (g_len : mg "len" = none) (g_range : mg "range" = none) (g_int : mg "int" = none) (g_tuple : mg "tuple" = none) (cdv : Value) (A : Around) (outer : List Env) (s : Shared) (H : Hp) (E : XK) (b : B) (N0 : Addr → Prop) (hK : b.K = K) (hn0 : ∀ a, N0 a → H a ≠ none) (hr : Room 1 (A.deeper (envOfC "_law_heard_list" (defScope (top 64)) s.heap.objs.size f cdv))) : PSst (mkC b N0 [4] H) (cxOf (L2.CX P w) P w K mg base ["score", "bells", "verses_in", "row", "found", "k"] "_law_heard_list" (defScope (top 64)) f cdv A outer s H E) (defBody (top 64)) (t__law_heard_list SP__law_heard) := by
  have nd := sc__law_heard_list.nd
  exact ss_cons (st_set 3 ((et_callD d__law_heard (hr.mono (by decide)) (at_cons (et_var 0) (at_cons (et_var 1) (at_nil)))).tor) (hN := nd)) (
  ss_cons (st_own 4 (et_lst (at_nil)) (hN := nd)) (
  ss_cons (st_for (it_range1 (et_op ot_mul (et_var 2) (et_callB ct_len (by rfl) g_len (by rfl) (at_cons (et_var 3) (at_nil)))) g_range) (fun _ _ _ => gt_name 5 (hN := nd)) (fun _ _ _ => ss_one (st_if (bt_cmp ot_ne (et_ix (et_var 3) (et_op ot_mod (et_callTy ct_int (by rfl) g_int (by decide +kernel) (at_cons (et_var 5) (at_nil))) (et_callB ct_len (by rfl) g_len (by rfl) (at_cons (et_var 3) (at_nil))))) (et_str) (by rfl)) (ss_one (st_app 4 ((et_tup (at_cons ((et_var 5).chk.tor) (at_cons (et_ix (et_var 3) (et_op ot_mod (et_callTy ct_int (by rfl) g_int (by decide +kernel) (at_cons (et_var 5) (at_nil))) (et_callB ct_len (by rfl) g_len (by rfl) (at_cons (et_var 3) (at_nil))))) (at_nil)))).tor))) (ss_nil)))) (
  ss_one (st_ret (et_callTy ct_tuple (by rfl) g_tuple (by decide +kernel) (at_cons (et_var 4) (at_nil)))))))
theorem sc__law_handed : FnScope ["store", "row"] ["store", "row"] (defScope (top 65)) := ⟨rfl, rfl, rfl, by decide +kernel, rfl, by decide +kernel, by decide +kernel⟩
theorem p__law_handed {SP__law_take : TSp} (d__law_take : CalD P w K mg base 3 "_law_take" 2 SP__law_take) (g_list : mg "list" = none) (g_tuple : mg "tuple" = none) (cdv : Value) (A : Around) (outer : List Env) (s : Shared) (H : Hp) (E : XK) (b : B) (N0 : Addr → Prop) (hK : b.K = K) (hn0 : ∀ a, N0 a → H a ≠ none) (hr : Room 3 (A.deeper (envOfC "_law_handed" (defScope (top 65)) s.heap.objs.size f cdv))) : PSst (mkC b N0 [] H) (cxOf (L2.CX P w) P w K mg base ["store", "row"] "_law_handed" (defScope (top 65)) f cdv A outer s H E) (defBody (top 65)) (t__law_handed SP__law_take) := by
  have nd := sc__law_handed.nd
  exact ss_cons (st_if (bt_cmp ot_eq (et_callD d__law_take (hr.mono (by decide)) (at_cons (et_var 0) (at_cons ((et_int).tob) (at_nil)))) (et_int) (by rfl)) (ss_one (st_ret (et_callTy ct_list (by rfl) g_list (by decide +kernel) (at_cons (et_var 1) (at_nil))))) (ss_nil)) (
  ss_one (st_ret (et_callTy ct_tuple (by rfl) g_tuple (by decide +kernel) (at_cons (et_var 1) (at_nil)))))
theorem sc__law_make_changer : FnScope ["store", "letters", "phases"] ["store", "letters", "phases"] (defScope (top 66)) := ⟨rfl, rfl, rfl, by decide +kernel, rfl, by decide +kernel, by decide +kernel⟩
theorem p__law_make_changer {SP__law_handed SP_Changer : TSp} (d__law_handed : CalD P w K mg base 4 "_law_handed" 2 SP__law_handed) (m_Changer : MkD P w K mg base 4 "Changer" 2 SP_Changer) (cdv : Value) (A : Around) (outer : List Env) (s : Shared) (H : Hp) (E : XK) (b : B) (N0 : Addr → Prop) (hK : b.K = K) (hn0 : ∀ a, N0 a → H a ≠ none) (hr : Room 5 (A.deeper (envOfC "_law_make_changer" (defScope (top 66)) s.heap.objs.size f cdv))) : PSst (mkC b N0 [] H) (cxOf (L2.CX P w) P w K mg base ["store", "letters", "phases"] "_law_make_changer" (defScope (top 66)) f cdv A outer s H E) (defBody (top 66)) (t__law_make_changer SP__law_handed SP_Changer) := by
  have nd := sc__law_make_changer.nd
  exact ss_one (st_ret (et_makeD m_Changer (hr.mono (by decide)) (at_cons (et_var 1) (at_cons ((et_callD d__law_handed (hr.mono (by decide)) (at_cons (et_var 0) (at_cons (et_var 2) (at_nil)))).tob) (at_nil)))))
theorem sc__law_make_carillon : FnScope ["store", "letters", "phases", "scores"] ["store", "letters", "phases", "scores"] (defScope (top 67)) := ⟨rfl, rfl, rfl, by decide +kernel, rfl, by decide +kernel, by decide +kernel⟩
theorem p__law_make_carillon {SP__law_handed SP__law_make_changer SP_Carillon : TSp} (d__law_handed : CalD P w K mg base 4 "_law_handed" 2 SP__law_handed) (d__law_make_changer : CalD P w K mg base 6 "_law_make_changer" 3 SP__law_make_changer) (m_Carillon : MkD P w K mg base 6 "Carillon" 2 SP_Carillon) (cdv : Value) (A : Around) (outer : List Env) (s : Shared) (H : Hp) (E : XK) (b : B) (N0 : Addr → Prop) (hK : b.K = K) (hn0 : ∀ a, N0 a → H a ≠ none) (hr : Room 7 (A.deeper (envOfC "_law_make_carillon" (defScope (top 67)) s.heap.objs.size f cdv))) : PSst (mkC b N0 [] H) (cxOf (L2.CX P w) P w K mg base ["store", "letters", "phases", "scores"] "_law_make_carillon" (defScope (top 67)) f cdv A outer s H E) (defBody (top 67)) (t__law_make_carillon SP__law_handed SP__law_make_changer SP_Carillon) := by
  have nd := sc__law_make_carillon.nd
  exact ss_one (st_ret (et_makeD m_Carillon (hr.mono (by decide)) (at_cons ((et_callD d__law_make_changer (hr.mono (by decide)) (at_cons (et_var 0) (at_cons (et_var 1) (at_cons (et_var 2) (at_nil))))).tob) (at_cons ((et_callD d__law_handed (hr.mono (by decide)) (at_cons (et_var 0) (at_cons (et_var 3) (at_nil)))).tob) (at_nil)))))
theorem sc__law_joint : FnScope ["one", "two", "bells", "rows", "parts", "base", "row", "told", "item", "heard_row"] ["one", "two", "bells"] (defScope (top 68)) := ⟨rfl, rfl, rfl, by decide +kernel, rfl, by decide +kernel, by decide +kernel⟩
theorem p__law_joint {SP__law_heard_list : TSp} (g_len : mg "len" = none) (d__law_heard_list : CalD P w K mg base 2 "_law_heard_list" 3 SP__law_heard_list) (cdv : Value) (A : Around) (outer : List Env) (s : Shared) (H : Hp) (E : XK) (b : B) (N0 : Addr → Prop) (hK : b.K = K) (hn0 : ∀ a, N0 a → H a ≠ none) (hr : Room 2 (A.deeper (envOfC "_law_joint" (defScope (top 68)) s.heap.objs.size f cdv))) : PSst (mkC b N0 [3, 7] H) (cxOf (L2.CX P w) P w K mg base ["one", "two", "bells", "rows", "parts", "base", "row", "told", "item", "heard_row"] "_law_joint" (defScope (top 68)) f cdv A outer s H E) (defBody (top 68)) (t__law_joint SP__law_heard_list) := by
  have nd := sc__law_joint.nd
  exact ss_cons (st_own 3 (et_lst (at_nil)) (hN := nd)) (
  ss_cons (st_for (it_any (src_val (et_lst (at_cons ((et_var 0).chk.tor) (at_cons ((et_var 1).chk.tor) (at_nil)))))) (fun _ _ _ => gt_name 4 (hN := nd)) (fun _ _ _ => ss_cons (st_set 5 ((et_callB ct_len (by rfl) g_len (by rfl) (at_cons (et_var 3) (at_nil))).tor) (hN := nd)) (
  ss_one (st_for (it_any (src_val (et_ix (et_var 4) (et_int)))) (fun _ _ _ => gt_name 6 (hN := nd)) (fun _ _ _ => ss_cons (st_own 7 (et_lst (at_nil)) (hN := nd)) (
  ss_cons (st_for (it_any (src_var 6)) (fun _ _ _ => gt_name 8 (hN := nd)) (fun _ _ _ => ss_cons (st_set 9 ((et_tup (at_nil)).tor) (hN := nd)) (
  ss_cons (st_if (bt_cmp ot_ge (et_ix (et_var 8) (et_int)) (et_int) (by rfl)) (ss_one (st_set 9 ((et_callD d__law_heard_list (hr.mono (by decide)) (at_cons ((et_ix (et_ix (et_var 4) (et_int)) (et_ix (et_var 8) (et_int))).tob) (at_cons (et_var 2) (at_cons ((et_ix (et_var 8) (et_int)).tob) (at_nil))))).tor) (hN := nd))) (ss_nil)) (
  ss_one (st_app 7 ((et_tup (at_cons ((et_op ot_add (et_ix (et_var 8) (et_int)) (et_var 5)).tor) (at_cons ((et_var 9).chk.tor) (at_nil)))).tor)))))) (
  ss_one (st_appGive 3 7 (hn0 := hn0))))))))) (
  ss_one (st_retvC 3 (hn0 := hn0))))
theorem sc__law_telling : FnScope ["rows", "other", "letters", "heads", "seen", "turn", "p", "q", "letters_in", "k", "pair"] ["rows", "other", "letters"] (defScope (top 69)) := ⟨rfl, rfl, rfl, by decide +kernel, rfl, by decide +kernel, by decide +kernel⟩
theorem p__law_telling (g_range : mg "range" = none) (g_len : mg "len" = none) (cdv : Value) (A : Around) (outer : List Env) (s : Shared) (H : Hp) (E : XK) (b : B) (N0 : Addr → Prop) (hK : b.K = K) (hn0 : ∀ a, N0 a → H a ≠ none) (hr : Room 0 (A.deeper (envOfC "_law_telling" (defScope (top 69)) s.heap.objs.size f cdv))) : PSst (mkC b N0 [3, 4] H) (cxOf (L2.CX P w) P w K mg base ["rows", "other", "letters", "heads", "seen", "turn", "p", "q", "letters_in", "k", "pair"] "_law_telling" (defScope (top 69)) f cdv A outer s H E) (defBody (top 69)) (t__law_telling w ) := by
  have nd := sc__law_telling.nd
  exact ss_cons (st_own 3 (et_lst (at_cons ((et_tup (at_cons ((et_int).tor) (at_cons ((et_var 1).chk.tor) (at_cons ((et_str).tor) (at_nil))))).tor) (at_nil))) (hN := nd)) (
  ss_cons (st_own 4 (et_nd1 ((et_tup (at_cons ((et_int).tor) (at_cons ((et_var 1).chk.tor) (at_nil)))).tor) ((et_bl).tor)) (hN := nd)) (
  ss_cons (st_for (it_range1 (et_int) g_range) (fun _ _ _ => gt_name 5 (hN := nd)) (fun _ _ _ => ss_one (st_if (bt_cmp ot_lt (et_var 5) (et_callB ct_len (by rfl) g_len (by rfl) (at_cons (et_var 3) (at_nil))) (by rfl)) (ss_cons (st_asg (et_ix (et_var 3) (et_var 5)) (gt_tup (gt_cons (gt_name 6 (hN := nd)) (gt_cons (gt_name 7 (hN := nd)) (gt_cons (gt_name 8 (hN := nd)) (gt_nil)))))) (
  ss_one (st_for (it_range1 (et_callB ct_len (by rfl) g_len (by rfl) (at_cons (et_var 2) (at_nil))) g_range) (fun _ _ _ => gt_name 9 (hN := nd)) (fun _ _ _ => ss_cons (st_if (bt_cmp ot_ne (et_ix (et_ix (et_ix (et_var 0) (et_var 6)) (et_var 9)) (et_int)) (et_ix (et_ix (et_ix (et_var 0) (et_var 7)) (et_var 9)) (et_int)) (by rfl)) (ss_one (st_ret (et_op ot_add (et_var 8) (et_ix (et_var 2) (et_var 9))))) (ss_nil)) (
  ss_cons (st_set 10 ((et_tup (at_cons (et_ix (et_ix (et_ix (et_var 0) (et_var 6)) (et_var 9)) (et_int)) (at_cons (et_ix (et_ix (et_ix (et_var 0) (et_var 7)) (et_var 9)) (et_int)) (at_nil)))).tor) (hN := nd)) (
  ss_one (st_if (bt_cmp ot_nnotin (et_var 10) (et_var 4) (by rfl)) (ss_cons (st_nput 4 (et_var 10) ((et_bl).tor)) (
  ss_one (st_app 3 ((et_op ot_add (et_var 10) (et_tup (at_cons ((et_op ot_add (et_var 8) (et_ix (et_var 2) (et_var 9))).tor) (at_nil)))).tor)))) (ss_nil)))))))) (ss_nil)))) (
  ss_one (st_ret (et_non)))))
theorem sc__law_deep : FnScope ["store", "letters", "many", "rings", "length", "rows", "q", "score", "at"] ["store"] (defScope (top 70)) := ⟨rfl, rfl, rfl, by decide +kernel, rfl, by decide +kernel, by decide +kernel⟩
theorem p__law_deep {SP__law_letters SP__law_take SP__law_delayed : TSp} (d__law_letters : CalD P w K mg base 4 "_law_letters" 1 SP__law_letters) (d__law_take : CalD P w K mg base 3 "_law_take" 2 SP__law_take) (g_range : mg "range" = none) (g_int : mg "int" = none) (g_len : mg "len" = none) (g_tuple : mg "tuple" = none) (d__law_delayed : CalD P w K mg base 1 "_law_delayed" 2 SP__law_delayed) (cdv : Value) (A : Around) (outer : List Env) (s : Shared) (H : Hp) (E : XK) (b : B) (N0 : Addr → Prop) (hK : b.K = K) (hn0 : ∀ a, N0 a → H a ≠ none) (hr : Room 4 (A.deeper (envOfC "_law_deep" (defScope (top 70)) s.heap.objs.size f cdv))) : PSst (mkC b N0 [3, 5] H) (cxOf (L2.CX P w) P w K mg base ["store", "letters", "many", "rings", "length", "rows", "q", "score", "at"] "_law_deep" (defScope (top 70)) f cdv A outer s H E) (defBody (top 70)) (t__law_deep SP__law_letters SP__law_take SP__law_delayed) := by
  have nd := sc__law_deep.nd
  exact ss_cons (st_set 1 ((et_callD d__law_letters (hr.mono (by decide)) (at_cons (et_var 0) (at_nil))).tor) (hN := nd)) (
  ss_cons (st_set 2 ((et_op ot_add (et_int) (et_callD d__law_take (hr.mono (by decide)) (at_cons (et_var 0) (at_cons ((et_int).tob) (at_nil))))).tor) (hN := nd)) (
  ss_cons (st_own 3 (et_lst (at_nil)) (hN := nd)) (
  ss_cons (st_for (it_any (src_val (et_lst (at_cons ((et_var 2).chk.tor) (at_cons ((et_op ot_add (et_var 2) (et_int)).tor) (at_nil)))))) (fun _ _ _ => gt_name 4 (hN := nd)) (fun _ _ _ => ss_cons (st_own 5 (et_lst (at_nil)) (hN := nd)) (
  ss_cons (st_for (it_range1 (et_var 4) g_range) (fun _ _ _ => gt_name 6 (hN := nd)) (fun _ _ _ => ss_one (st_app 5 ((et_op ot_mulT (et_tup (at_cons ((et_tup (at_cons ((et_op ot_mod (et_callTy ct_int (by rfl) g_int (by decide +kernel) (at_cons ((et_op ot_add (et_var 6) (et_int)).tob) (at_nil))) (et_var 4)).tor) (at_cons ((et_int).tor) (at_cons ((et_op ot_add (et_int) (et_callTy ct_int (by rfl) g_int (by decide +kernel) (at_cons ((et_cmp ot_eq (et_var 6) (et_op ot_sub (et_var 2) (et_int)) (by rfl)).tob) (at_nil)))).tor) (at_nil))))).tor) (at_nil))) (et_callB ct_len (by rfl) g_len (by rfl) (at_cons (et_var 1) (at_nil)))).tor)))) (
  ss_one (st_app 3 ((et_callTy ct_tuple (by rfl) g_tuple (by decide +kernel) (at_cons (et_var 5) (at_nil))).tor)))))) (
  ss_cons (st_set 7 ((et_callD d__law_delayed (hr.mono (by decide)) (at_cons ((et_op ot_add (et_tup (at_cons ((et_tup (at_cons ((et_str).tor) (at_nil))).tor) (at_nil))) (et_op ot_mulT (et_tup (at_cons ((et_tup (at_nil)).tor) (at_nil))) (et_callD d__law_take (hr.mono (by decide)) (at_cons (et_var 0) (at_cons ((et_int).tob) (at_nil)))))).tob) (at_cons ((et_callD d__law_take (hr.mono (by decide)) (at_cons (et_var 0) (at_cons ((et_int).tob) (at_nil)))).tob) (at_nil)))).tor) (hN := nd)) (
  ss_cons (st_set 8 ((et_callD d__law_take (hr.mono (by decide)) (at_cons (et_var 0) (at_cons ((et_int).tob) (at_nil)))).tor) (hN := nd)) (
  ss_one (st_ret (et_tup (at_cons ((et_tup (at_cons ((et_var 1).chk.tor) (at_cons (et_ix (et_var 3) (et_var 8)) (at_cons ((et_tup (at_cons ((et_var 7).chk.tor) (at_nil))).tor) (at_nil))))).tor) (at_cons ((et_tup (at_cons ((et_var 1).chk.tor) (at_cons (et_ix (et_var 3) (et_op ot_sub (et_int) (et_var 8))) (at_cons ((et_tup (at_cons ((et_var 7).chk.tor) (at_cons ((et_var 7).chk.tor) (at_nil)))).tor) (at_nil))))).tor) (at_nil)))))))))))
theorem sc__law_two : FnScope ["store", "one", "two", "kind", "letters", "row", "score"] ["store"] (defScope (top 71)) := ⟨rfl, rfl, rfl, by decide +kernel, rfl, by decide +kernel, by decide +kernel⟩
theorem p__law_two {SP__law_chimes SP__law_other SP__law_take SP__law_deep SP__law_letters SP__law_pick : TSp} (d__law_chimes : CalD P w K mg base 7 "_law_chimes" 1 SP__law_chimes) (d__law_other : CalD P w K mg base 7 "_law_other" 4 SP__law_other) (d__law_take : CalD P w K mg base 3 "_law_take" 2 SP__law_take) (d__law_deep : CalD P w K mg base 5 "_law_deep" 1 SP__law_deep) (d__law_letters : CalD P w K mg base 4 "_law_letters" 1 SP__law_letters) (d__law_pick : CalD P w K mg base 4 "_law_pick" 2 SP__law_pick) (g_len : mg "len" = none) (g_tuple : mg "tuple" = none) (g_int : mg "int" = none) (cdv : Value) (A : Around) (outer : List Env) (s : Shared) (H : Hp) (E : XK) (b : B) (N0 : Addr → Prop) (hK : b.K = K) (hn0 : ∀ a, N0 a → H a ≠ none) (hr : Room 7 (A.deeper (envOfC "_law_two" (defScope (top 71)) s.heap.objs.size f cdv))) : PSst (mkC b N0 [] H) (cxOf (L2.CX P w) P w K mg base ["store", "one", "two", "kind", "letters", "row", "score"] "_law_two" (defScope (top 71)) f cdv A outer s H E) (defBody (top 71)) (t__law_two SP__law_chimes SP__law_other SP__law_take SP__law_deep SP__law_letters SP__law_pick) := by
  have nd := sc__law_two.nd
  exact ss_cons (st_set 1 ((et_callD d__law_chimes (hr.mono (by decide)) (at_cons (et_var 0) (at_nil))).tor) (hN := nd)) (
  ss_cons (st_set 2 ((et_callD d__law_other (hr.mono (by decide)) (at_cons (et_var 0) (at_cons ((et_ix (et_var 1) (et_int)).tob) (at_cons ((et_ix (et_var 1) (et_int)).tob) (at_cons ((et_ix (et_var 1) (et_int)).tob) (at_nil)))))).tor) (hN := nd)) (
  ss_cons (st_set 3 ((et_callD d__law_take (hr.mono (by decide)) (at_cons (et_var 0) (at_cons ((et_int).tob) (at_nil)))).tor) (hN := nd)) (
  ss_cons (st_if (bt_cmp ot_lt (et_var 3) (et_int) (by rfl)) (ss_one (st_ret (et_callD d__law_deep (hr.mono (by decide)) (at_cons (et_var 0) (at_nil))))) (ss_nil)) (
  ss_cons (st_if (.of (wt_or (bt_cmp ot_eq (et_var 3) (et_int) (by rfl)) (wt_or1 (bt_cmp ot_eq (et_var 3) (et_int) (by rfl))))) (ss_cons (st_set 4 ((et_callD d__law_pick (hr.mono (by decide)) (at_cons (et_var 0) (at_cons ((et_lst (at_cons ((et_revS (et_ix (et_var 1) (et_int))).tor) (at_cons ((et_callD d__law_letters (hr.mono (by decide)) (at_cons (et_var 0) (at_nil))).tor) (at_nil)))).tob) (at_nil)))).tor) (hN := nd)) (
  ss_one (st_set 2 ((et_tup (at_cons ((et_var 4).chk.tor) (at_cons ((et_callTy ct_tuple (by rfl) g_tuple (by decide +kernel) (at_cons ((et_lc ((LcParts.mk (it_any (src_val (et_ix (et_var 2) (et_int)))) (fun _ _ _ _ _ _ _ _ => gt_name 5 (hN := nd)) (fun _ _ _ _ _ _ _ _ => tt_nil) (fun _ _ _ _ _ _ _ _ => (et_slice (et_op ot_mulT (et_var 5) (et_int)) (ot_none) (ot_some (et_callB ct_len (by rfl) g_len (by rfl) (at_cons (et_var 4) (at_nil))))).tor) (by rfl) : LcParts _ _ [] _ _ _ _ _ (List.map (·.2) ([("row", 5)] : List (Str × Nat))) _ _ _ _)) (hb := by kernel_rfl) (hN := nd)).tob) (at_nil))).tor) (at_cons (et_ix (et_var 2) (et_int)) (at_nil))))).tor) (hN := nd)))) (ss_nil)) (
  ss_cons (st_if (.of (wt_or (bt_cmp ot_eq (et_var 3) (et_int) (by rfl)) (wt_or1 (bt_cmp ot_eq (et_var 3) (et_int) (by rfl))))) (ss_one (st_set 2 ((et_tup (at_cons (et_ix (et_var 2) (et_int)) (at_cons (et_ix (et_var 2) (et_int)) (at_cons ((et_callTy ct_tuple (by rfl) g_tuple (by decide +kernel) (at_cons ((et_lc ((LcParts.mk (it_any (src_val (et_ix (et_var 2) (et_int)))) (fun _ _ _ _ _ _ _ _ => gt_name 6 (hN := nd)) (fun _ _ _ _ _ _ _ _ => tt_nil) (fun _ _ _ _ _ _ _ _ => (et_slice (et_op ot_add (et_var 6) (et_tup (at_cons ((et_tup (at_nil)).tor) (at_nil)))) (ot_none) (ot_some (et_ix (et_lst (at_cons ((et_int).tor) (at_cons ((et_int).tor) (at_nil)))) (et_callTy ct_int (by rfl) g_int (by decide +kernel) (at_cons ((et_cmp ot_lt (et_callB ct_len (by rfl) g_len (by rfl) (at_cons (et_var 6) (at_nil))) (et_int) (by rfl)).tob) (at_nil)))))).tor) (by rfl) : LcParts _ _ [] _ _ _ _ _ (List.map (·.2) ([("score", 6)] : List (Str × Nat))) _ _ _ _)) (hb := by kernel_rfl) (hN := nd)).tob) (at_nil))).tor) (at_nil))))).tor) (hN := nd))) (ss_nil)) (
  ss_one (st_ret (et_tup (at_cons ((et_var 1).chk.tor) (at_cons ((et_var 2).chk.tor) (at_nil)))))))))))
theorem sc__law_fault : FnScope ["one", "two", "bells", "bell"] ["one", "two", "bells"] (defScope (top 72)) := ⟨rfl, rfl, rfl, by decide +kernel, rfl, by decide +kernel, by decide +kernel⟩
theorem p__law_fault (g_list : mg "list" = none) (g_len : mg "len" = none) (cdv : Value) (A : Around) (outer : List Env) (s : Shared) (H : Hp) (E : XK) (b : B) (N0 : Addr → Prop) (hK : b.K = K) (hn0 : ∀ a, N0 a → H a ≠ none) (hr : Room 0 (A.deeper (envOfC "_law_fault" (defScope (top 72)) s.heap.objs.size f cdv))) : PSst (mkC b N0 [] H) (cxOf (L2.CX P w) P w K mg base ["one", "two", "bells", "bell"] "_law_fault" (defScope (top 72)) f cdv A outer s H E) (defBody (top 72)) (t__law_fault ) := by
  have nd := sc__law_fault.nd
  exact ss_cons (st_if (bt_cmp ot_ne (et_callTy ct_listS (by rfl) g_list (by decide +kernel) (at_cons (et_var 2) (at_nil))) (et_lc ((LcParts.mk (it_any (src_val (et_str))) (fun _ _ _ _ _ _ _ _ => gt_name 3 (hN := nd)) (fun _ _ _ _ _ _ _ _ => tt_one (bt_cmp ot_in (et_var 3) (et_var 2) (by rfl))) (fun _ _ _ _ _ _ _ _ => (et_var 3).chk.tor) (by rfl) : LcParts _ _ [] _ _ _ _ _ (List.map (·.2) ([("bell", 3)] : List (Str × Nat))) _ _ _ _)) (hb := by kernel_rfl) (hN := nd)) (by rfl)) (ss_one (st_ret (et_tup (at_cons ((et_bl).tor) (at_cons ((et_str).tor) (at_cons ((et_var 2).chk.tor) (at_nil))))))) (ss_nil)) (
  ss_cons (st_if (bt_cmp ot_ne (et_ix (et_var 0) (et_int)) (et_ix (et_var 1) (et_int)) (by rfl)) (ss_one (st_ret (et_tup (at_cons ((et_bl).tor) (at_cons ((et_str).tor) (at_cons ((et_str).tor) (at_nil))))))) (ss_nil)) (
  ss_cons (st_if (bt_cmp ot_ne (et_callB ct_len (by rfl) g_len (by rfl) (at_cons ((et_ix (et_ix (et_var 0) (et_int)) (et_int)).tob) (at_nil))) (et_callB ct_len (by rfl) g_len (by rfl) (at_cons ((et_ix (et_ix (et_var 1) (et_int)) (et_int)).tob) (at_nil))) (by rfl)) (ss_one (st_ret (et_tup (at_cons ((et_bl).tor) (at_cons ((et_str).tor) (at_cons ((et_str).tor) (at_nil))))))) (ss_nil)) (
  ss_one (st_ret (et_non)))))
theorem sc__law_alike : FnScope ["one", "two", "k"] ["one", "two"] (defScope (top 73)) := ⟨rfl, rfl, rfl, by decide +kernel, rfl, by decide +kernel, by decide +kernel⟩
theorem p__law_alike {k : Nat} {SP__law_alike : TSp} (g_isinstance : mg "isinstance" = none) (g_tuple : mg "tuple" = none) (g_len : mg "len" = none) (g_range : mg "range" = none) (d__law_alike : CalD P w K mg base k "_law_alike" 2 SP__law_alike) (g_bool : mg "bool" = none) (g_int : mg "int" = none) (g_str : mg "str" = none) (cdv : Value) (A : Around) (outer : List Env) (s : Shared) (H : Hp) (E : XK) (b : B) (N0 : Addr → Prop) (hK : b.K = K) (hn0 : ∀ a, N0 a → H a ≠ none) (hr : Room k (A.deeper (envOfC "_law_alike" (defScope (top 73)) s.heap.objs.size f cdv))) : PSst (mkC b N0 [] H) (cxOf (L2.CX P w) P w K mg base ["one", "two", "k"] "_law_alike" (defScope (top 73)) f cdv A outer s H E) (defBody (top 73)) (t__law_alike SP__law_alike) := by
  have nd := sc__law_alike.nd
  exact ss_cons (st_if (bt_val (et_isi (et_var 0) (.inl rfl) g_isinstance g_tuple (by decide +kernel))) (ss_cons (st_if (.of (wt_or (bt_not (bt_val (et_isi (et_var 1) (.inl rfl) g_isinstance g_tuple (by decide +kernel)))) (wt_or1 (bt_cmp ot_ne (et_callB ct_len (by rfl) g_len (by rfl) (at_cons (et_var 0) (at_nil))) (et_callB ct_len (by rfl) g_len (by rfl) (at_cons (et_var 1) (at_nil))) (by rfl))))) (ss_one (st_ret (et_bl))) (ss_nil)) (
  ss_one (st_ret (et_cmp ot_eq (et_callB ct_len (by rfl) g_len (by rfl) (at_cons ((et_lc ((LcParts.mk (it_range1 (et_callB ct_len (by rfl) g_len (by rfl) (at_cons (et_var 0) (at_nil))) g_range) (fun _ _ _ _ _ _ _ _ => gt_name 2 (hN := nd)) (fun _ _ _ _ _ _ _ _ => tt_one (bt_not (bt_val (et_callD d__law_alike hr (at_cons ((et_ix (et_var 0) (et_var 2)).tob) (at_cons ((et_ix (et_var 1) (et_var 2)).tob) (at_nil))))))) (fun _ _ _ _ _ _ _ _ => (et_var 2).chk.tor) (by rfl) : LcParts _ _ [] _ _ _ _ _ (List.map (·.2) ([("k", 2)] : List (Str × Nat))) _ _ _ _)) (hb := by kernel_rfl) (hN := nd)).tob) (at_nil))) (et_int) (by rfl))))) (ss_nil)) (
  ss_cons (st_if (.of (wt_or (bt_cmp ot_is (et_var 0) (et_non) (by rfl)) (wt_or (bt_cmp ot_is (et_var 1) (et_non) (by rfl)) (wt_or (bt_val (et_isi (et_var 0) (.inr (.inr (.inl rfl))) g_isinstance g_bool (by decide +kernel))) (wt_or1 (bt_val (et_isi (et_var 1) (.inr (.inr (.inl rfl))) g_isinstance g_bool (by decide +kernel)))))))) (ss_one (st_ret (et_and (et_cmp ot_eq (et_cmp ot_is (et_var 0) (et_non) (by rfl)) (et_cmp ot_is (et_var 1) (et_non) (by rfl)) (by rfl)) (et_and (et_cmp ot_eq (et_isi (et_var 0) (.inr (.inr (.inl rfl))) g_isinstance g_bool (by decide +kernel)) (et_isi (et_var 1) (.inr (.inr (.inl rfl))) g_isinstance g_bool (by decide +kernel)) (by rfl)) (et_one (et_cmp ot_eq (et_var 0) (et_var 1) (by rfl))))))) (ss_nil)) (
  ss_one (st_ret (et_and (et_cmp ot_eq (et_isi (et_var 0) (.inr (.inr (.inr (.inl rfl)))) g_isinstance g_int (by decide +kernel)) (et_isi (et_var 1) (.inr (.inr (.inr (.inl rfl)))) g_isinstance g_int (by decide +kernel)) (by rfl)) (et_and (et_cmp ot_eq (et_isi (et_var 0) (.inr (.inr (.inr (.inr rfl)))) g_isinstance g_str (by decide +kernel)) (et_isi (et_var 1) (.inr (.inr (.inr (.inr rfl)))) g_isinstance g_str (by decide +kernel)) (by rfl)) (et_one (et_cmp ot_eq (et_var 0) (et_var 1) (by rfl))))))))
theorem sc__law_told : FnScope ["pair", "bells", "whole", "answer", "e"] ["pair", "bells", "whole"] (defScope (top 74)) := ⟨rfl, rfl, rfl, by decide +kernel, rfl, by decide +kernel, by decide +kernel⟩
theorem p__law_told {SP_alike SP_alike_bells : TSp} (d_alike : CalD P w K mg base 9 "alike" 3 SP_alike) (g_isinstance : mg "isinstance" = none) (g_tuple : mg "tuple" = none) (g_len : mg "len" = none) (d_alike_bells : CalD P w K mg base 10 "alike_bells" 3 SP_alike_bells) (xc_BadBells : XC K "BadBells" "text") (ki_BadBells_DrumError : PySem.W.kitOne K (.ref (He.ga K "BadBells")) (.ref (He.ga K "DrumError")) = some true) (gc_DrumError : mg "DrumError" = some (.ref (He.ga K "DrumError"))) (ki_BadBells_BadLetter : PySem.W.kitOne K (.ref (He.ga K "BadBells")) (.ref (He.ga K "BadLetter")) = some false) (gc_BadLetter : mg "BadLetter" = some (.ref (He.ga K "BadLetter"))) (xc_Unlike : XC K "Unlike" "field") (ki_Unlike_DrumError : PySem.W.kitOne K (.ref (He.ga K "Unlike")) (.ref (He.ga K "DrumError")) = some true) (ex_Unlike_Unlike : PySem.W.exmOne K (.ref (He.ga K "Unlike")) (.ref (He.ga K "Unlike")) = some true) (ex_BadBells_Unlike : PySem.W.exmOne K (.ref (He.ga K "BadBells")) (.ref (He.ga K "Unlike")) = some false) (gc_Unlike : mg "Unlike" = some (.ref (He.ga K "Unlike"))) (ex_Unlike_BadBells : PySem.W.exmOne K (.ref (He.ga K "Unlike")) (.ref (He.ga K "BadBells")) = some false) (ex_BadBells_BadBells : PySem.W.exmOne K (.ref (He.ga K "BadBells")) (.ref (He.ga K "BadBells")) = some true) (gc_BadBells : mg "BadBells" = some (.ref (He.ga K "BadBells"))) (cdv : Value) (A : Around) (outer : List Env) (s : Shared) (H : Hp) (E : XK) (b : B) (N0 : Addr → Prop) (hK : b.K = K) (hn0 : ∀ a, N0 a → H a ≠ none) (hr : Room 10 (A.deeper (envOfC "_law_told" (defScope (top 74)) s.heap.objs.size f cdv))) : PSst (mkC b N0 [] H) (cxOf (L2.CX P w) P w K mg base ["pair", "bells", "whole", "answer", "e"] "_law_told" (defScope (top 74)) f cdv A outer s H E) (defBody (top 74)) (t__law_told SP_alike SP_alike_bells) := by
  have nd := sc__law_told.nd
  exact ss_one (st_try (fun _ _ => ss_cons (st_if (bt_val (et_var 2)) (ss_cons (st_set 3 ((et_callD d_alike (hr.mono (by decide)) (at_cons ((et_ix (et_var 0) (et_int)).tob) (at_cons ((et_ix (et_var 0) (et_int)).tob) (at_cons (et_var 1) (at_nil))))).tor) (hN := nd)) (
  ss_cons (st_if (.of (wt_or (bt_not (bt_val (et_isi (et_var 3) (.inl rfl) g_isinstance g_tuple (by decide +kernel)))) (wt_or1 (bt_cmp ot_ne (et_callB ct_len (by rfl) g_len (by rfl) (at_cons (et_var 3) (at_nil))) (et_int) (by rfl))))) (ss_one (st_ret (et_tup (at_cons ((et_bl).tor) (at_cons ((et_non).tor) (at_nil)))))) (ss_nil)) (
  ss_one (st_ret (et_tup (at_cons ((et_bl).tor) (at_cons (et_ix (et_var 3) (et_int)) (at_nil)))))))) (ss_nil)) (
  ss_one (st_ret (et_tup (at_cons ((et_bl).tor) (at_cons ((et_callD d_alike_bells (hr.mono (by decide)) (at_cons ((et_ix (et_var 0) (et_int)).tob) (at_cons ((et_ix (et_var 0) (et_int)).tob) (at_cons (et_var 1) (at_nil))))).tor) (at_nil))))))) (cls_one (C0 := "BadBells") (by rfl) (by rfl) ⟨by rfl, by decide, .inl gc_BadBells⟩ (by rfl) (by rfl) (tabC ex_BadBells_BadBells (tabC ex_Unlike_BadBells (tabN))) (fun cn h => by simpa using h) (fun a oe ns ds dd pn hz hf => ss_one (st_ret (et_tup (at_cons ((et_or (et_not (et_isE xc_BadBells hz hf (by exact List.mem_append_left _ (List.mem_singleton.mpr rfl)) (et_var 4) ki_BadBells_DrumError g_isinstance gc_DrumError)) (et_one (et_isE xc_BadBells hz hf (by exact List.mem_append_left _ (List.mem_singleton.mpr rfl)) (et_var 4) ki_BadBells_BadLetter g_isinstance gc_BadLetter))).tor) (at_cons ((et_str).tor) (at_cons (et_xf xc_BadBells hz hf (by exact List.mem_append_left _ (List.mem_singleton.mpr rfl)) (et_var 4)) (at_nil))))))) (cls_one (C0 := "Unlike") (by rfl) (by rfl) ⟨by rfl, by decide, .inl gc_Unlike⟩ (by rfl) (by rfl) (tabC ex_BadBells_Unlike (tabC ex_Unlike_Unlike (tabN))) (fun cn h => by simpa using h) (fun a oe ns ds dd pn hz hf => ss_one (st_ret (et_tup (at_cons ((et_not (et_isE xc_Unlike hz hf (by exact List.mem_append_left _ (List.mem_singleton.mpr rfl)) (et_var 4) ki_Unlike_DrumError g_isinstance gc_DrumError)).tor) (at_cons ((et_str).tor) (at_cons (et_xf xc_Unlike hz hf (by exact List.mem_append_left _ (List.mem_singleton.mpr rfl)) (et_var 4)) (at_nil))))))) (.nil))) (hN := nd))
theorem sc_law : FnScope ["script", "store", "one", "two", "bells", "pair", "parts", "due", "told", "bell", "row", "words", "letters_in"] ["script"] (defScope (top 75)) := ⟨rfl, rfl, rfl, by decide +kernel, rfl, by decide +kernel, by decide +kernel⟩
theorem p_law {SP__law_store SP__law_two SP__law_bells_in SP__law_pick SP__law_take SP__law_make_carillon SP__law_fault SP__law_told SP__law_alike SP__law_joint SP__law_telling SP_alike : TSp} (d__law_store : CalD P w K mg base 2 "_law_store" 1 SP__law_store) (d__law_two : CalD P w K mg base 8 "_law_two" 1 SP__law_two) (d__law_bells_in : CalD P w K mg base 4 "_law_bells_in" 1 SP__law_bells_in) (d__law_pick : CalD P w K mg base 4 "_law_pick" 2 SP__law_pick) (d__law_take : CalD P w K mg base 3 "_law_take" 2 SP__law_take) (d__law_make_carillon : CalD P w K mg base 8 "_law_make_carillon" 4 SP__law_make_carillon) (d__law_fault : CalD P w K mg base 1 "_law_fault" 3 SP__law_fault) (d__law_told : CalD P w K mg base 11 "_law_told" 3 SP__law_told) (d__law_alike : CalD P w K mg base 3 "_law_alike" 2 SP__law_alike) (g_len : mg "len" = none) (d__law_joint : CalD P w K mg base 3 "_law_joint" 3 SP__law_joint) (d__law_telling : CalD P w K mg base 1 "_law_telling" 3 SP__law_telling) (g_int : mg "int" = none) (d_alike : CalD P w K mg base 9 "alike" 3 SP_alike) (cdv : Value) (A : Around) (outer : List Env) (s : Shared) (H : Hp) (E : XK) (b : B) (N0 : Addr → Prop) (hK : b.K = K) (hn0 : ∀ a, N0 a → H a ≠ none) (hr : Room 11 (A.deeper (envOfC "law" (defScope (top 75)) s.heap.objs.size f cdv))) : PSst (mkC b N0 [] H) (cxOf (L2.CX P w) P w K mg base ["script", "store", "one", "two", "bells", "pair", "parts", "due", "told", "bell", "row", "words", "letters_in"] "law" (defScope (top 75)) f cdv A outer s H E) (defBody (top 75)) (t_law SP__law_store SP__law_two SP__law_bells_in SP__law_pick SP__law_take SP__law_make_carillon SP__law_fault SP__law_told SP__law_alike SP__law_joint SP__law_telling SP_alike) := by
  have nd := sc_law.nd
  exact ss_cons (st_set 1 ((et_callD d__law_store (hr.mono (by decide)) (at_cons (et_var 0) (at_nil))).tor) (hN := nd)) (
  ss_cons (st_asg ((et_callD d__law_two (hr.mono (by decide)) (at_cons (et_var 1) (at_nil))).tor) (gt_tup (gt_cons (gt_name 2 (hN := nd)) (gt_cons (gt_name 3 (hN := nd)) (gt_nil))))) (
  ss_cons (st_set 4 ((et_callD d__law_pick (hr.mono (by decide)) (at_cons (et_var 1) (at_cons ((et_lst (at_cons ((et_callD d__law_bells_in (hr.mono (by decide)) (at_cons (et_var 1) (at_nil))).tor) (at_cons ((et_str).tor) (at_cons ((et_callD d__law_bells_in (hr.mono (by decide)) (at_cons (et_var 1) (at_nil))).tor) (at_cons ((et_str).tor) (at_cons ((et_str).tor) (at_nil))))))).tob) (at_nil)))).tor) (hN := nd)) (
  ss_cons (st_if (bt_cmp ot_eq (et_callD d__law_take (hr.mono (by decide)) (at_cons (et_var 1) (at_cons ((et_int).tob) (at_nil)))) (et_int) (by rfl)) (ss_one (st_set 4 ((et_op ot_add (et_var 4) (et_callD d__law_pick (hr.mono (by decide)) (at_cons (et_var 1) (at_cons ((et_lst (at_cons ((et_str).tor) (at_cons ((et_str).tor) (at_cons ((et_str).tor) (at_cons ((et_str).tor) (at_cons ((et_str).tor) (at_nil))))))).tob) (at_nil))))).tor) (hN := nd))) (ss_nil)) (
  ss_cons (st_setLc 5 ((LcParts.mk (it_any (src_val (et_lst (at_cons ((et_var 2).chk.tor) (at_cons ((et_var 3).chk.tor) (at_nil)))))) (fun _ _ _ _ _ _ _ _ => gt_name 6 (hN := nd)) (fun _ _ _ _ _ _ _ _ => tt_nil) (fun _ _ _ _ _ _ _ _ => (et_callD d__law_make_carillon (hr.mono (by decide)) (at_cons (et_var 1) (at_cons ((et_ix (et_var 6) (et_int)).tob) (at_cons ((et_ix (et_var 6) (et_int)).tob) (at_cons ((et_ix (et_var 6) (et_int)).tob) (at_nil)))))).tor) (by rfl) : LcParts _ _ [] _ _ _ _ _ (List.map (·.2) ([("parts", 6)] : List (Str × Nat))) _ _ _ _)) (hb := by kernel_rfl) (hN := nd)) (
  ss_cons (st_set 7 ((et_callD d__law_fault (hr.mono (by decide)) (at_cons (et_var 2) (at_cons (et_var 3) (at_cons (et_var 4) (at_nil))))).tor) (hN := nd)) (
  ss_cons (st_if (bt_cmp ot_isnot (et_var 7) (et_non) (by rfl)) (ss_one (st_ret (et_and (et_callD d__law_alike (hr.mono (by decide)) (at_cons (et_var 7) (at_cons ((et_callD d__law_told (hr.mono (by decide)) (at_cons (et_var 5) (at_cons (et_var 4) (at_cons ((et_bl).tob) (at_nil))))).tob) (at_nil)))) (et_one (et_callD d__law_alike (hr.mono (by decide)) (at_cons (et_var 7) (at_cons ((et_callD d__law_told (hr.mono (by decide)) (at_cons (et_var 5) (at_cons (et_var 4) (at_cons ((et_bl).tob) (at_nil))))).tob) (at_nil)))))))) (ss_nil)) (
  ss_cons (st_set 8 ((et_str).tor) (hN := nd)) (
  ss_cons (st_for (it_any (src_val (et_str))) (fun _ _ _ => gt_name 9 (hN := nd)) (fun _ _ _ => ss_one (st_if (bt_cmp ot_is (et_callD d__law_telling (hr.mono (by decide)) (at_cons ((et_callD d__law_joint (hr.mono (by decide)) (at_cons (et_var 2) (at_cons (et_var 3) (at_cons (et_var 9) (at_nil))))).tob) (at_cons ((et_callB ct_len (by rfl) g_len (by rfl) (at_cons ((et_ix (et_var 2) (et_int)).tob) (at_nil))).tob) (at_cons ((et_ix (et_var 2) (et_int)).tob) (at_nil))))) (et_non) (by rfl)) (ss_one (st_set 8 ((et_op ot_add (et_var 8) (et_var 9)).tor) (hN := nd))) (ss_nil)))) (
  ss_cons (st_for (it_any (src_val (et_lst (at_cons ((et_var 4).chk.tor) (at_cons ((et_str).tor) (at_cons ((et_callD d__law_bells_in (hr.mono (by decide)) (at_cons (et_var 1) (at_nil))).tor) (at_cons ((et_var 8).chk.tor) (at_cons ((et_callD d__law_bells_in (hr.mono (by decide)) (at_cons (et_var 1) (at_nil))).tor) (at_nil))))))))) (fun _ _ _ => gt_name 10 (hN := nd)) (fun _ _ _ => ss_cons (st_set 7 ((et_join (et_str) (et_lc ((LcParts.mk (it_any (src_var 10)) (fun _ _ _ _ _ _ _ _ => gt_name 9 (hN := nd)) (fun _ _ _ _ _ _ _ _ => tt_one (bt_cmp ot_in (et_var 9) (et_var 8) (by rfl))) (fun _ _ _ _ _ _ _ _ => (et_var 9).chk.tor) (by rfl) : LcParts _ _ [10] _ _ _ _ _ (List.map (·.2) ([("bell", 9)] : List (Str × Nat))) _ _ _ _)) (hb := by kernel_rfl) (hN := nd))).tor) (hN := nd)) (
  ss_cons (st_set 11 ((et_lst (at_cons ((et_str).tor) (at_cons ((et_str).tor) (at_nil)))).tor) (hN := nd)) (
  ss_cons (st_if (bt_not (bt_val (et_callD d__law_alike (hr.mono (by decide)) (at_cons ((et_tup (at_cons ((et_bl).tor) (at_cons ((et_var 7).chk.tor) (at_nil)))).tob) (at_cons ((et_callD d__law_told (hr.mono (by decide)) (at_cons (et_var 5) (at_cons (et_var 10) (at_cons ((et_bl).tob) (at_nil))))).tob) (at_nil)))))) (ss_one (st_ret (et_bl))) (ss_nil)) (
  ss_cons (st_if (bt_not (bt_val (et_callD d__law_alike (hr.mono (by decide)) (at_cons ((et_tup (at_cons ((et_bl).tor) (at_cons (et_ix (et_var 11) (et_callTy ct_int (by rfl) g_int (by decide +kernel) (at_cons ((et_cmp ot_eq (et_var 7) (et_var 10) (by rfl)).tob) (at_nil)))) (at_nil)))).tob) (at_cons ((et_callD d__law_told (hr.mono (by decide)) (at_cons (et_var 5) (at_cons (et_var 10) (at_cons ((et_bl).tob) (at_nil))))).tob) (at_nil)))))) (ss_one (st_ret (et_bl))) (ss_nil)) (
  ss_one (st_if (bt_not (bt_val (et_callD d__law_alike (hr.mono (by decide)) (at_cons ((et_tup (at_cons ((et_bl).tor) (at_cons ((et_var 7).chk.tor) (at_nil)))).tob) (at_cons ((et_callD d__law_told (hr.mono (by decide)) (at_cons ((et_rev (et_var 5)).tob) (at_cons (et_var 10) (at_cons ((et_bl).tob) (at_nil))))).tob) (at_nil)))))) (ss_one (st_ret (et_bl))) (ss_nil)))))))) (
  ss_cons (st_set 12 ((et_callD d__law_telling (hr.mono (by decide)) (at_cons ((et_callD d__law_joint (hr.mono (by decide)) (at_cons (et_var 2) (at_cons (et_var 3) (at_cons (et_var 4) (at_nil))))).tob) (at_cons ((et_callB ct_len (by rfl) g_len (by rfl) (at_cons ((et_ix (et_var 2) (et_int)).tob) (at_nil))).tob) (at_cons ((et_ix (et_var 2) (et_int)).tob) (at_nil))))).tor) (hN := nd)) (
  ss_cons (st_if (.of (wt_and (bt_cmp ot_isnot (et_var 12) (et_non) (by rfl)) (wt_and1 (bt_not (bt_val (et_callD d__law_alike (hr.mono (by decide)) (at_cons ((et_tup (at_cons ((et_str).tor) (at_cons ((et_var 12).chk.tor) (at_nil)))).tob) (at_cons ((et_callD d_alike (hr.mono (by decide)) (at_cons ((et_ix (et_var 5) (et_int)).tob) (at_cons ((et_ix (et_var 5) (et_int)).tob) (at_cons (et_var 4) (at_nil))))).tob) (at_nil))))))))) (ss_one (st_ret (et_bl))) (ss_nil)) (
  ss_one (st_ret (et_callD d__law_alike (hr.mono (by decide)) (at_cons ((et_tup (at_cons ((et_bl).tor) (at_cons ((et_var 4).chk.tor) (at_nil)))).tob) (at_cons ((et_callD d__law_told (hr.mono (by decide)) (at_cons ((et_lst (at_cons (et_ix (et_var 5) (et_int)) (at_cons (et_ix (et_var 5) (et_int)) (at_nil)))).tob) (at_cons (et_var 4) (at_cons ((et_bl).tob) (at_nil))))).tob) (at_nil)))))))))))))))))
theorem p_law_rest {SP__law_two SP__law_bells_in SP__law_pick SP__law_take SP__law_make_carillon SP__law_fault SP__law_told SP__law_alike SP__law_joint SP__law_telling SP_alike : TSp} (d__law_two : CalD P w K mg base 8 "_law_two" 1 SP__law_two) (d__law_bells_in : CalD P w K mg base 4 "_law_bells_in" 1 SP__law_bells_in) (d__law_pick : CalD P w K mg base 4 "_law_pick" 2 SP__law_pick) (d__law_take : CalD P w K mg base 3 "_law_take" 2 SP__law_take) (d__law_make_carillon : CalD P w K mg base 8 "_law_make_carillon" 4 SP__law_make_carillon) (d__law_fault : CalD P w K mg base 1 "_law_fault" 3 SP__law_fault) (d__law_told : CalD P w K mg base 11 "_law_told" 3 SP__law_told) (d__law_alike : CalD P w K mg base 3 "_law_alike" 2 SP__law_alike) (g_len : mg "len" = none) (d__law_joint : CalD P w K mg base 3 "_law_joint" 3 SP__law_joint) (d__law_telling : CalD P w K mg base 1 "_law_telling" 3 SP__law_telling) (g_int : mg "int" = none) (d_alike : CalD P w K mg base 9 "alike" 3 SP_alike) (cdv : Value) (A : Around) (outer : List Env) (s : Shared) (H : Hp) (E : XK) (b : B) (N0 : Addr → Prop) (hK : b.K = K) (hn0 : ∀ a, N0 a → H a ≠ none) (hr : Room 11 (A.deeper (envOfC "law" (defScope (top 75)) s.heap.objs.size f cdv))) : PSst (mkC b N0 [] H) (cxOf (L2.CX P w) P w K mg base ["script", "store", "one", "two", "bells", "pair", "parts", "due", "told", "bell", "row", "words", "letters_in"] "law" (defScope (top 75)) f cdv A outer s H E) ((defBody (top 75)).drop 1) (t_law_rest SP__law_two SP__law_bells_in SP__law_pick SP__law_take SP__law_make_carillon SP__law_fault SP__law_told SP__law_alike SP__law_joint SP__law_telling SP_alike) := by
  have nd := sc_law.nd
  exact ss_cons (st_asg ((et_callD d__law_two (hr.mono (by decide)) (at_cons (et_var 1) (at_nil))).tor) (gt_tup (gt_cons (gt_name 2 (hN := nd)) (gt_cons (gt_name 3 (hN := nd)) (gt_nil))))) (
  ss_cons (st_set 4 ((et_callD d__law_pick (hr.mono (by decide)) (at_cons (et_var 1) (at_cons ((et_lst (at_cons ((et_callD d__law_bells_in (hr.mono (by decide)) (at_cons (et_var 1) (at_nil))).tor) (at_cons ((et_str).tor) (at_cons ((et_callD d__law_bells_in (hr.mono (by decide)) (at_cons (et_var 1) (at_nil))).tor) (at_cons ((et_str).tor) (at_cons ((et_str).tor) (at_nil))))))).tob) (at_nil)))).tor) (hN := nd)) (
  ss_cons (st_if (bt_cmp ot_eq (et_callD d__law_take (hr.mono (by decide)) (at_cons (et_var 1) (at_cons ((et_int).tob) (at_nil)))) (et_int) (by rfl)) (ss_one (st_set 4 ((et_op ot_add (et_var 4) (et_callD d__law_pick (hr.mono (by decide)) (at_cons (et_var 1) (at_cons ((et_lst (at_cons ((et_str).tor) (at_cons ((et_str).tor) (at_cons ((et_str).tor) (at_cons ((et_str).tor) (at_cons ((et_str).tor) (at_nil))))))).tob) (at_nil))))).tor) (hN := nd))) (ss_nil)) (
  ss_cons (st_setLc 5 ((LcParts.mk (it_any (src_val (et_lst (at_cons ((et_var 2).chk.tor) (at_cons ((et_var 3).chk.tor) (at_nil)))))) (fun _ _ _ _ _ _ _ _ => gt_name 6 (hN := nd)) (fun _ _ _ _ _ _ _ _ => tt_nil) (fun _ _ _ _ _ _ _ _ => (et_callD d__law_make_carillon (hr.mono (by decide)) (at_cons (et_var 1) (at_cons ((et_ix (et_var 6) (et_int)).tob) (at_cons ((et_ix (et_var 6) (et_int)).tob) (at_cons ((et_ix (et_var 6) (et_int)).tob) (at_nil)))))).tor) (by rfl) : LcParts _ _ [] _ _ _ _ _ (List.map (·.2) ([("parts", 6)] : List (Str × Nat))) _ _ _ _)) (hb := by kernel_rfl) (hN := nd)) (
  ss_cons (st_set 7 ((et_callD d__law_fault (hr.mono (by decide)) (at_cons (et_var 2) (at_cons (et_var 3) (at_cons (et_var 4) (at_nil))))).tor) (hN := nd)) (
  ss_cons (st_if (bt_cmp ot_isnot (et_var 7) (et_non) (by rfl)) (ss_one (st_ret (et_and (et_callD d__law_alike (hr.mono (by decide)) (at_cons (et_var 7) (at_cons ((et_callD d__law_told (hr.mono (by decide)) (at_cons (et_var 5) (at_cons (et_var 4) (at_cons ((et_bl).tob) (at_nil))))).tob) (at_nil)))) (et_one (et_callD d__law_alike (hr.mono (by decide)) (at_cons (et_var 7) (at_cons ((et_callD d__law_told (hr.mono (by decide)) (at_cons (et_var 5) (at_cons (et_var 4) (at_cons ((et_bl).tob) (at_nil))))).tob) (at_nil)))))))) (ss_nil)) (
  ss_cons (st_set 8 ((et_str).tor) (hN := nd)) (
  ss_cons (st_for (it_any (src_val (et_str))) (fun _ _ _ => gt_name 9 (hN := nd)) (fun _ _ _ => ss_one (st_if (bt_cmp ot_is (et_callD d__law_telling (hr.mono (by decide)) (at_cons ((et_callD d__law_joint (hr.mono (by decide)) (at_cons (et_var 2) (at_cons (et_var 3) (at_cons (et_var 9) (at_nil))))).tob) (at_cons ((et_callB ct_len (by rfl) g_len (by rfl) (at_cons ((et_ix (et_var 2) (et_int)).tob) (at_nil))).tob) (at_cons ((et_ix (et_var 2) (et_int)).tob) (at_nil))))) (et_non) (by rfl)) (ss_one (st_set 8 ((et_op ot_add (et_var 8) (et_var 9)).tor) (hN := nd))) (ss_nil)))) (
  ss_cons (st_for (it_any (src_val (et_lst (at_cons ((et_var 4).chk.tor) (at_cons ((et_str).tor) (at_cons ((et_callD d__law_bells_in (hr.mono (by decide)) (at_cons (et_var 1) (at_nil))).tor) (at_cons ((et_var 8).chk.tor) (at_cons ((et_callD d__law_bells_in (hr.mono (by decide)) (at_cons (et_var 1) (at_nil))).tor) (at_nil))))))))) (fun _ _ _ => gt_name 10 (hN := nd)) (fun _ _ _ => ss_cons (st_set 7 ((et_join (et_str) (et_lc ((LcParts.mk (it_any (src_var 10)) (fun _ _ _ _ _ _ _ _ => gt_name 9 (hN := nd)) (fun _ _ _ _ _ _ _ _ => tt_one (bt_cmp ot_in (et_var 9) (et_var 8) (by rfl))) (fun _ _ _ _ _ _ _ _ => (et_var 9).chk.tor) (by rfl) : LcParts _ _ [10] _ _ _ _ _ (List.map (·.2) ([("bell", 9)] : List (Str × Nat))) _ _ _ _)) (hb := by kernel_rfl) (hN := nd))).tor) (hN := nd)) (
  ss_cons (st_set 11 ((et_lst (at_cons ((et_str).tor) (at_cons ((et_str).tor) (at_nil)))).tor) (hN := nd)) (
  ss_cons (st_if (bt_not (bt_val (et_callD d__law_alike (hr.mono (by decide)) (at_cons ((et_tup (at_cons ((et_bl).tor) (at_cons ((et_var 7).chk.tor) (at_nil)))).tob) (at_cons ((et_callD d__law_told (hr.mono (by decide)) (at_cons (et_var 5) (at_cons (et_var 10) (at_cons ((et_bl).tob) (at_nil))))).tob) (at_nil)))))) (ss_one (st_ret (et_bl))) (ss_nil)) (
  ss_cons (st_if (bt_not (bt_val (et_callD d__law_alike (hr.mono (by decide)) (at_cons ((et_tup (at_cons ((et_bl).tor) (at_cons (et_ix (et_var 11) (et_callTy ct_int (by rfl) g_int (by decide +kernel) (at_cons ((et_cmp ot_eq (et_var 7) (et_var 10) (by rfl)).tob) (at_nil)))) (at_nil)))).tob) (at_cons ((et_callD d__law_told (hr.mono (by decide)) (at_cons (et_var 5) (at_cons (et_var 10) (at_cons ((et_bl).tob) (at_nil))))).tob) (at_nil)))))) (ss_one (st_ret (et_bl))) (ss_nil)) (
  ss_one (st_if (bt_not (bt_val (et_callD d__law_alike (hr.mono (by decide)) (at_cons ((et_tup (at_cons ((et_bl).tor) (at_cons ((et_var 7).chk.tor) (at_nil)))).tob) (at_cons ((et_callD d__law_told (hr.mono (by decide)) (at_cons ((et_rev (et_var 5)).tob) (at_cons (et_var 10) (at_cons ((et_bl).tob) (at_nil))))).tob) (at_nil)))))) (ss_one (st_ret (et_bl))) (ss_nil)))))))) (
  ss_cons (st_set 12 ((et_callD d__law_telling (hr.mono (by decide)) (at_cons ((et_callD d__law_joint (hr.mono (by decide)) (at_cons (et_var 2) (at_cons (et_var 3) (at_cons (et_var 4) (at_nil))))).tob) (at_cons ((et_callB ct_len (by rfl) g_len (by rfl) (at_cons ((et_ix (et_var 2) (et_int)).tob) (at_nil))).tob) (at_cons ((et_ix (et_var 2) (et_int)).tob) (at_nil))))).tor) (hN := nd)) (
  ss_cons (st_if (.of (wt_and (bt_cmp ot_isnot (et_var 12) (et_non) (by rfl)) (wt_and1 (bt_not (bt_val (et_callD d__law_alike (hr.mono (by decide)) (at_cons ((et_tup (at_cons ((et_str).tor) (at_cons ((et_var 12).chk.tor) (at_nil)))).tob) (at_cons ((et_callD d_alike (hr.mono (by decide)) (at_cons ((et_ix (et_var 5) (et_int)).tob) (at_cons ((et_ix (et_var 5) (et_int)).tob) (at_cons (et_var 4) (at_nil))))).tob) (at_nil))))))))) (ss_one (st_ret (et_bl))) (ss_nil)) (
  ss_one (st_ret (et_callD d__law_alike (hr.mono (by decide)) (at_cons ((et_tup (at_cons ((et_bl).tor) (at_cons ((et_var 4).chk.tor) (at_nil)))).tob) (at_cons ((et_callD d__law_told (hr.mono (by decide)) (at_cons ((et_lst (at_cons (et_ix (et_var 5) (et_int)) (at_cons (et_ix (et_var 5) (et_int)) (at_nil)))).tob) (at_cons (et_var 4) (at_cons ((et_bl).tob) (at_nil))))).tob) (at_nil))))))))))))))))
end
end TL
set_option Elab.async false
set_option linter.all false
set_option maxRecDepth 100000
set_option maxHeartbeats 4000000
namespace TL
open PySem PySem.Spec PyProof.Rows L2
def loose0 : List PySem.Str := ["_wall", "DrumError", "BadSize", "BadScore", "Unlike", "BadChanger", "BadLetter", "BadBells", "BadCarillon", "BELLS", "check_bells", "heard_slots", "heard_list", "MARKS", "GREATEST_SIZE", "is_good_slot", "check_score", "MOST_SCORES", "is_good_score", "are_good_scores", "names_missing_tune", "Carillon", "hour_list", "answer_rows", "numbered", "refined", "row_partitions", "first_difference", "row_word", "check_pair"]
def loose1 : List PySem.Str := ["joint_rows", "alike", "alike_bells", "MOST_LETTERS", "MOST_STATES", "LAST_TUNE", "MOST_VERSES", "are_letters", "is_entry", "check_changer", "Changer", "_law_mix", "_law_mixed", "_law_store", "_law_take", "_law_pick", "_law_near", "_law_tones", "_law_bent_tone", "_law_letters", "_law_wheel", "_law_delayed", "_law_chimes", "_law_twinned", "_law_other", "_law_bells_in", "_law_heard", "_law_heard_list", "_law_handed", "_law_make_changer"]
def loose2 : List PySem.Str := ["_law_make_carillon", "_law_joint", "_law_telling", "_law_deep", "_law_two", "_law_fault", "_law_alike", "_law_told"]
def loose : List PySem.Str := loose0 ++ loose1 ++ loose2
def fn0 : List He.DefD := [
  ⟨("_law_mix", none), "_law_mix", "_law_mix", defArgs (top 48), defBody (top 48), defScope (top 48), [], []⟩,
  ⟨("_law_mixed", none), "_law_mixed", "_law_mixed", defArgs (top 49), defBody (top 49), defScope (top 49), [], []⟩,
  ⟨("_law_take", none), "_law_take", "_law_take", defArgs (top 51), defBody (top 51), defScope (top 51), [], []⟩,
  ⟨("_law_pick", none), "_law_pick", "_law_pick", defArgs (top 52), defBody (top 52), defScope (top 52), [], []⟩,
  ⟨("_law_near", none), "_law_near", "_law_near", defArgs (top 53), defBody (top 53), defScope (top 53), [], []⟩,
  ⟨("_law_letters", none), "_law_letters", "_law_letters", defArgs (top 56), defBody (top 56), defScope (top 56), [], []⟩,
  ⟨("_law_wheel", none), "_law_wheel", "_law_wheel", defArgs (top 57), defBody (top 57), defScope (top 57), [], []⟩,
  ⟨("_law_tones", none), "_law_tones", "_law_tones", defArgs (top 54), defBody (top 54), defScope (top 54), [], []⟩,
  ⟨("_law_delayed", none), "_law_delayed", "_law_delayed", defArgs (top 58), defBody (top 58), defScope (top 58), [], []⟩,
  ⟨("_law_bent_tone", none), "_law_bent_tone", "_law_bent_tone", defArgs (top 55), defBody (top 55), defScope (top 55), [], []⟩,
  ⟨("_law_chimes", none), "_law_chimes", "_law_chimes", defArgs (top 59), defBody (top 59), defScope (top 59), [], []⟩,
  ⟨("_law_twinned", none), "_law_twinned", "_law_twinned", defArgs (top 60), defBody (top 60), defScope (top 60), [], []⟩,
  ⟨("_law_other", none), "_law_other", "_law_other", defArgs (top 61), defBody (top 61), defScope (top 61), [], []⟩,
  ⟨("_law_deep", none), "_law_deep", "_law_deep", defArgs (top 70), defBody (top 70), defScope (top 70), [], []⟩,
  ⟨("_law_two", none), "_law_two", "_law_two", defArgs (top 71), defBody (top 71), defScope (top 71), [], []⟩,
  ⟨("_law_bells_in", none), "_law_bells_in", "_law_bells_in", defArgs (top 62), defBody (top 62), defScope (top 62), [], []⟩,
  ⟨("_law_handed", none), "_law_handed", "_law_handed", defArgs (top 65), defBody (top 65), defScope (top 65), [], []⟩,
  ⟨("are_letters", none), "are_letters", "are_letters", defArgs (top 43), defBody (top 43), defScope (top 43), [], []⟩,
  ⟨("is_entry", none), "is_entry", "is_entry", defArgs (top 44), defBody (top 44), defScope (top 44), [], []⟩,
  ⟨("check_changer", none), "check_changer", "check_changer", defArgs (top 45), defBody (top 45), defScope (top 45), [], []⟩]
def fn1 : List He.DefD := [
  ⟨("Changer", some "__init__"), "__init__", "Changer.__init__", defArgs (inClass (top 46) 0), defBody (inClass (top 46) 0), defScope (inClass (top 46) 0), [], []⟩,
  ⟨("_law_make_changer", none), "_law_make_changer", "_law_make_changer", defArgs (top 66), defBody (top 66), defScope (top 66), [], []⟩,
  ⟨("is_good_slot", none), "is_good_slot", "is_good_slot", defArgs (top 18), defBody (top 18), defScope (top 18), [], []⟩,
  ⟨("check_score", none), "check_score", "check_score", defArgs (top 19), defBody (top 19), defScope (top 19), [], []⟩,
  ⟨("is_good_score", none), "is_good_score", "is_good_score", defArgs (top 22), defBody (top 22), defScope (top 22), [], []⟩,
  ⟨("are_good_scores", none), "are_good_scores", "are_good_scores", defArgs (top 23), defBody (top 23), defScope (top 23), [], []⟩,
  ⟨("names_missing_tune", none), "names_missing_tune", "names_missing_tune", defArgs (top 24), defBody (top 24), defScope (top 24), [], []⟩,
  ⟨("Carillon", some "__init__"), "__init__", "Carillon.__init__", defArgs (inClass (top 25) 0), defBody (inClass (top 25) 0), defScope (inClass (top 25) 0), [], []⟩,
  ⟨("_law_make_carillon", none), "_law_make_carillon", "_law_make_carillon", defArgs (top 67), defBody (top 67), defScope (top 67), [], []⟩,
  ⟨("_law_fault", none), "_law_fault", "_law_fault", defArgs (top 72), defBody (top 72), defScope (top 72), [], []⟩,
  ⟨("BadBells", some "__init__"), "__init__", "BadBells.__init__", defArgs (inClass (top 8) 0), defBody (inClass (top 8) 0), defScope (inClass (top 8) 0), [], []⟩,
  ⟨("check_bells", none), "check_bells", "check_bells", defArgs (top 12), defBody (top 12), defScope (top 12), [], []⟩,
  ⟨("Unlike", some "__init__"), "__init__", "Unlike.__init__", defArgs (inClass (top 5) 0), defBody (inClass (top 5) 0), defScope (inClass (top 5) 0), [], []⟩,
  ⟨("check_pair", none), "check_pair", "check_pair", defArgs (top 34), defBody (top 34), defScope (top 34), [], []⟩,
  ⟨("Changer", some "__len__"), "__len__", "Changer.__len__", defArgs (inClass (top 46) 2), defBody (inClass (top 46) 2), defScope (inClass (top 46) 2), [], []⟩,
  ⟨("heard_slots", none), "heard_slots", "heard_slots", defArgs (top 13), defBody (top 13), defScope (top 13), [], []⟩,
  ⟨("heard_list", none), "heard_list", "heard_list", defArgs (top 14), defBody (top 14), defScope (top 14), [], [("verses", .int 1)]⟩,
  ⟨("hour_list", none), "hour_list", "hour_list", defArgs (top 26), defBody (top 26), defScope (top 26), [], []⟩,
  ⟨("answer_rows", none), "answer_rows", "answer_rows", defArgs (top 27), defBody (top 27), defScope (top 27), [], []⟩,
  ⟨("joint_rows", none), "joint_rows", "joint_rows", defArgs (top 35), defBody (top 35), defScope (top 35), [], []⟩]
def fn2 : List He.DefD := [
  ⟨("numbered", none), "numbered", "numbered", defArgs (top 28), defBody (top 28), defScope (top 28), [], []⟩,
  ⟨("refined", none), "refined", "refined", defArgs (top 29), defBody (top 29), defScope (top 29), [], []⟩,
  ⟨("row_partitions", none), "row_partitions", "row_partitions", defArgs (top 30), defBody (top 30), defScope (top 30), [], []⟩,
  ⟨("first_difference", none), "first_difference", "first_difference", defArgs (top 31), defBody (top 31), defScope (top 31), [], []⟩,
  ⟨("row_word", none), "row_word", "row_word", defArgs (top 32), defBody (top 32), defScope (top 32), [], []⟩,
  ⟨("alike", none), "alike", "alike", defArgs (top 36), defBody (top 36), defScope (top 36), [], []⟩,
  ⟨("alike_bells", none), "alike_bells", "alike_bells", defArgs (top 37), defBody (top 37), defScope (top 37), [], []⟩,
  ⟨("_law_told", none), "_law_told", "_law_told", defArgs (top 74), defBody (top 74), defScope (top 74), [], []⟩,
  ⟨("_law_alike", none), "_law_alike", "_law_alike", defArgs (top 73), defBody (top 73), defScope (top 73), [], []⟩,
  ⟨("_law_heard", none), "_law_heard", "_law_heard", defArgs (top 63), defBody (top 63), defScope (top 63), [], []⟩,
  ⟨("_law_heard_list", none), "_law_heard_list", "_law_heard_list", defArgs (top 64), defBody (top 64), defScope (top 64), [], []⟩,
  ⟨("_law_joint", none), "_law_joint", "_law_joint", defArgs (top 68), defBody (top 68), defScope (top 68), [], []⟩,
  ⟨("_law_telling", none), "_law_telling", "_law_telling", defArgs (top 69), defBody (top 69), defScope (top 69), [], []⟩,
  ⟨("_law_store", none), "_law_store", "_law_store", defArgs (top 50), defBody (top 50), defScope (top 50), [], []⟩,
  ⟨("law", none), "law", "law", defArgs (top 75), defBody (top 75), defScope (top 75), [], []⟩]
def fnA : List He.DefD := fn0 ++ fn1 ++ fn2
def fa0 : List He.Fa := [.free "len", .free "range", .free "int", .glo "_law_mix", .glo "_law_mixed", .glo "_law_take", .free "max", .free "min", .glo "_law_pick", .glo "_law_near", .free "list", .glo "_law_letters", .free "tuple", .glo "_law_wheel", .glo "_law_tones", .glo "_law_delayed", .free "sorted", .glo "_law_bent_tone", .glo "_law_chimes", .glo "_law_twinned", .glo "_law_other", .glo "_law_deep", .glo "_law_two", .glo "_law_bells_in", .glo "_law_handed", .int "MOST_LETTERS" 3, .int "MOST_STATES" 6, .free "all", .glo "are_letters", .free "set"]
def fa1 : List He.Fa := [.free "enumerate", .int "LAST_TUNE" 3, .int "MOST_VERSES" 3, .glo "is_entry", .glo "check_changer", .cls "Changer", .noat "Changer" "letters", .noat "Changer" "states", .glo "Changer", .mkr "Changer", .glo "_law_make_changer", .int "MOST_SCORES" 4, .int "GREATEST_SIZE" 24, .glo "MARKS", .glo "is_good_slot", .glo "check_score", .glo "is_good_score", .glo "are_good_scores", .free "any", .glo "names_missing_tune", .cls "Carillon", .noat "Carillon" "changer", .noat "Carillon" "scores", .noat "Carillon" "size", .glo "Carillon", .mkr "Carillon", .glo "_law_make_carillon", .glo "_law_fault", .str "BELLS" "abcdef", .glo "BadBells"]
def fa2 : List He.Fa := [.glo "check_bells", .glo "Unlike", .glo "check_pair", .meth "Changer" "__len__", .glo "heard_slots", .glo "heard_list", .glo "hour_list", .glo "answer_rows", .glo "joint_rows", .glo "numbered", .glo "refined", .glo "row_partitions", .glo "first_difference", .glo "row_word", .glo "alike", .free "isinstance", .glo "alike_bells", .glo "DrumError", .glo "BadLetter", .exm "Unlike" "Unlike" true, .exm "BadBells" "Unlike" false, .exm "Unlike" "BadBells" false, .exm "BadBells" "BadBells" true, .glo "_law_told", .free "bool", .free "str", .glo "_law_alike", .glo "_law_heard", .glo "_law_heard_list", .glo "_law_joint"]
def fa3 : List He.Fa := [.glo "_law_telling", .glo "_law_store", .glo "law"]
def faA : List He.Fa := fa0 ++ fa1 ++ fa2 ++ fa3
def exA (K : PySem.W.Frag) : Bool :=
  He.tupB K "MARKS" [.str "!a", .str "!b", .str "!c", .str "!d", .str "!e", .str "!f", .str "a", .str "b", .str "c", .str "d", .str "e", .str "f"] &&
  (xcB K "BadBells" "text" &&
  (xcB K "Unlike" "field" &&
  (decide (PySem.W.typeIn K (.ref (He.ma K (He.ga K "Changer") "__len__")) = some (.type "function")) &&
  (optB (PySem.W.kitOne K (.ref (He.ga K "BadBells")) (.ref (He.ga K "DrumError"))) (some true) &&
  (optB (PySem.W.kitOne K (.ref (He.ga K "BadBells")) (.ref (He.ga K "BadLetter"))) (some false) &&
  (optB (PySem.W.kitOne K (.ref (He.ga K "Unlike")) (.ref (He.ga K "DrumError"))) (some true)))))))
/-- what the head says -/
structure HX (K : PySem.W.Frag) (mg : Str → Option Value) : Prop where
  sd : He.SaysD faA fnA K
  eb : exA K = true
  nm : ∃ h : Heap, K.In h ∧ h.Ns mainGlobals mg
section
variable {K : PySem.W.Frag} {mg : Str → Option Value}
theorem HX.g_MARKSB (F : HX K mg) : He.tupB K "MARKS" [.str "!a", .str "!b", .str "!c", .str "!d", .str "!e", .str "!f", .str "a", .str "b", .str "c", .str "d", .str "e", .str "f"] = true := (He.ba F.eb).1
theorem HX.xc_BadBellsB (F : HX K mg) : xcB K "BadBells" "text" = true := (He.ba (He.ba F.eb).2).1
theorem HX.xc_UnlikeB (F : HX K mg) : xcB K "Unlike" "field" = true := (He.ba (He.ba (He.ba F.eb).2).2).1
theorem HX.ty_Changer_lenB (F : HX K mg) : decide (PySem.W.typeIn K (.ref (He.ma K (He.ga K "Changer") "__len__")) = some (.type "function")) = true := (He.ba (He.ba (He.ba (He.ba F.eb).2).2).2).1
theorem HX.ki_BadBells_DrumErrorB (F : HX K mg) : optB (PySem.W.kitOne K (.ref (He.ga K "BadBells")) (.ref (He.ga K "DrumError"))) (some true) = true := (He.ba (He.ba (He.ba (He.ba (He.ba F.eb).2).2).2).2).1
theorem HX.ki_BadBells_BadLetterB (F : HX K mg) : optB (PySem.W.kitOne K (.ref (He.ga K "BadBells")) (.ref (He.ga K "BadLetter"))) (some false) = true := (He.ba (He.ba (He.ba (He.ba (He.ba (He.ba F.eb).2).2).2).2).2).1
theorem HX.ki_Unlike_DrumErrorB (F : HX K mg) : optB (PySem.W.kitOne K (.ref (He.ga K "Unlike")) (.ref (He.ga K "DrumError"))) (some true) = true := (He.ba (He.ba (He.ba (He.ba (He.ba (He.ba F.eb).2).2).2).2).2).2
theorem HX.g_len (F : HX K mg) : mg "len" = none := by
  obtain ⟨h, X, G⟩ := F.nm
  exact He.free_ok X G (F.sd.fact 0 rfl)
theorem HX.g_range (F : HX K mg) : mg "range" = none := by
  obtain ⟨h, X, G⟩ := F.nm
  exact He.free_ok X G (F.sd.fact 1 rfl)
theorem HX.g_int (F : HX K mg) : mg "int" = none := by
  obtain ⟨h, X, G⟩ := F.nm
  exact He.free_ok X G (F.sd.fact 2 rfl)
theorem HX.g_max (F : HX K mg) : mg "max" = none := by
  obtain ⟨h, X, G⟩ := F.nm
  exact He.free_ok X G (F.sd.fact 6 rfl)
theorem HX.g_min (F : HX K mg) : mg "min" = none := by
  obtain ⟨h, X, G⟩ := F.nm
  exact He.free_ok X G (F.sd.fact 7 rfl)
theorem HX.g_list (F : HX K mg) : mg "list" = none := by
  obtain ⟨h, X, G⟩ := F.nm
  exact He.free_ok X G (F.sd.fact 10 rfl)
theorem HX.g_tuple (F : HX K mg) : mg "tuple" = none := by
  obtain ⟨h, X, G⟩ := F.nm
  exact He.free_ok X G (F.sd.fact 12 rfl)
theorem HX.g_sorted (F : HX K mg) : mg "sorted" = none := by
  obtain ⟨h, X, G⟩ := F.nm
  exact He.free_ok X G (F.sd.fact 16 rfl)
theorem HX.g_MOST_LETTERS (F : HX K mg) : ∃ k, mg "MOST_LETTERS" = some (.int 3 k) := by
  obtain ⟨h, X, G⟩ := F.nm
  exact He.int_ok X G (F.sd.fact 25 rfl)
theorem HX.g_MOST_STATES (F : HX K mg) : ∃ k, mg "MOST_STATES" = some (.int 6 k) := by
  obtain ⟨h, X, G⟩ := F.nm
  exact He.int_ok X G (F.sd.fact 26 rfl)
theorem HX.g_all (F : HX K mg) : mg "all" = none := by
  obtain ⟨h, X, G⟩ := F.nm
  exact He.free_ok X G (F.sd.fact 27 rfl)
theorem HX.g_set (F : HX K mg) : mg "set" = none := by
  obtain ⟨h, X, G⟩ := F.nm
  exact He.free_ok X G (F.sd.fact 29 rfl)
theorem HX.g_enumerate (F : HX K mg) : mg "enumerate" = none := by
  obtain ⟨h, X, G⟩ := F.nm
  exact He.free_ok X G (F.sd.fact 30 rfl)
theorem HX.g_LAST_TUNE (F : HX K mg) : ∃ k, mg "LAST_TUNE" = some (.int 3 k) := by
  obtain ⟨h, X, G⟩ := F.nm
  exact He.int_ok X G (F.sd.fact 31 rfl)
theorem HX.g_MOST_VERSES (F : HX K mg) : ∃ k, mg "MOST_VERSES" = some (.int 3 k) := by
  obtain ⟨h, X, G⟩ := F.nm
  exact He.int_ok X G (F.sd.fact 32 rfl)
theorem HX.f_Changer_letters (F : HX K mg) : FieldOk K "Changer" "letters" := by
  obtain ⟨h, X, G⟩ := F.nm
  exact ⟨He.cls_ok (F.sd.fact 35 rfl), He.noat_ok (F.sd.fact 36 rfl)⟩
theorem HX.f_Changer_states (F : HX K mg) : FieldOk K "Changer" "states" := by
  obtain ⟨h, X, G⟩ := F.nm
  exact ⟨He.cls_ok (F.sd.fact 35 rfl), He.noat_ok (F.sd.fact 37 rfl)⟩
theorem HX.g_MOST_SCORES (F : HX K mg) : ∃ k, mg "MOST_SCORES" = some (.int 4 k) := by
  obtain ⟨h, X, G⟩ := F.nm
  exact He.int_ok X G (F.sd.fact 41 rfl)
theorem HX.g_GREATEST_SIZE (F : HX K mg) : ∃ k, mg "GREATEST_SIZE" = some (.int 24 k) := by
  obtain ⟨h, X, G⟩ := F.nm
  exact He.int_ok X G (F.sd.fact 42 rfl)
theorem HX.g_MARKS (F : HX K mg) : TupG K mg "MARKS" ["!a", "!b", "!c", "!d", "!e", "!f", "a", "b", "c", "d", "e", "f"] := by
  obtain ⟨h, X, G⟩ := F.nm
  exact ⟨_, He.glo_ok X G (F.sd.fact 43 rfl), fun H => He.tupB_ok (F.g_MARKSB) H⟩
theorem HX.g_any (F : HX K mg) : mg "any" = none := by
  obtain ⟨h, X, G⟩ := F.nm
  exact He.free_ok X G (F.sd.fact 48 rfl)
theorem HX.f_Carillon_changer (F : HX K mg) : FieldOk K "Carillon" "changer" := by
  obtain ⟨h, X, G⟩ := F.nm
  exact ⟨He.cls_ok (F.sd.fact 50 rfl), He.noat_ok (F.sd.fact 51 rfl)⟩
theorem HX.f_Carillon_scores (F : HX K mg) : FieldOk K "Carillon" "scores" := by
  obtain ⟨h, X, G⟩ := F.nm
  exact ⟨He.cls_ok (F.sd.fact 50 rfl), He.noat_ok (F.sd.fact 52 rfl)⟩
theorem HX.f_Carillon_size (F : HX K mg) : FieldOk K "Carillon" "size" := by
  obtain ⟨h, X, G⟩ := F.nm
  exact ⟨He.cls_ok (F.sd.fact 50 rfl), He.noat_ok (F.sd.fact 53 rfl)⟩
theorem HX.g_BELLS (F : HX K mg) : ∃ k, mg "BELLS" = some (.str "abcdef" k) := by
  obtain ⟨h, X, G⟩ := F.nm
  exact He.str_ok X G (F.sd.fact 58 rfl)
theorem HX.xc_BadBells (F : HX K mg) : XC K "BadBells" "text" := by
  obtain ⟨h, X, G⟩ := F.nm
  exact xcB_ok (F.xc_BadBellsB)
theorem HX.xc_Unlike (F : HX K mg) : XC K "Unlike" "field" := by
  obtain ⟨h, X, G⟩ := F.nm
  exact xcB_ok (F.xc_UnlikeB)
theorem HX.g_isinstance (F : HX K mg) : mg "isinstance" = none := by
  obtain ⟨h, X, G⟩ := F.nm
  exact He.free_ok X G (F.sd.fact 75 rfl)
theorem HX.ki_BadBells_DrumError (F : HX K mg) : PySem.W.kitOne K (.ref (He.ga K "BadBells")) (.ref (He.ga K "DrumError")) = some true := by
  obtain ⟨h, X, G⟩ := F.nm
  exact of_decide_eq_true (F.ki_BadBells_DrumErrorB)
theorem HX.gc_DrumError (F : HX K mg) : mg "DrumError" = some (.ref (He.ga K "DrumError")) := by
  obtain ⟨h, X, G⟩ := F.nm
  exact He.glo_ok X G (F.sd.fact 77 rfl)
theorem HX.ki_BadBells_BadLetter (F : HX K mg) : PySem.W.kitOne K (.ref (He.ga K "BadBells")) (.ref (He.ga K "BadLetter")) = some false := by
  obtain ⟨h, X, G⟩ := F.nm
  exact of_decide_eq_true (F.ki_BadBells_BadLetterB)
theorem HX.gc_BadLetter (F : HX K mg) : mg "BadLetter" = some (.ref (He.ga K "BadLetter")) := by
  obtain ⟨h, X, G⟩ := F.nm
  exact He.glo_ok X G (F.sd.fact 78 rfl)
theorem HX.ki_Unlike_DrumError (F : HX K mg) : PySem.W.kitOne K (.ref (He.ga K "Unlike")) (.ref (He.ga K "DrumError")) = some true := by
  obtain ⟨h, X, G⟩ := F.nm
  exact of_decide_eq_true (F.ki_Unlike_DrumErrorB)
theorem HX.ex_Unlike_Unlike (F : HX K mg) : PySem.W.exmOne K (.ref (He.ga K "Unlike")) (.ref (He.ga K "Unlike")) = some true := by
  obtain ⟨h, X, G⟩ := F.nm
  exact He.exm_ok (F.sd.fact 79 rfl)
theorem HX.ex_BadBells_Unlike (F : HX K mg) : PySem.W.exmOne K (.ref (He.ga K "BadBells")) (.ref (He.ga K "Unlike")) = some false := by
  obtain ⟨h, X, G⟩ := F.nm
  exact He.exm_ok (F.sd.fact 80 rfl)
theorem HX.gc_Unlike (F : HX K mg) : mg "Unlike" = some (.ref (He.ga K "Unlike")) := by
  obtain ⟨h, X, G⟩ := F.nm
  exact He.glo_ok X G (F.sd.fact 61 rfl)
theorem HX.ex_Unlike_BadBells (F : HX K mg) : PySem.W.exmOne K (.ref (He.ga K "Unlike")) (.ref (He.ga K "BadBells")) = some false := by
  obtain ⟨h, X, G⟩ := F.nm
  exact He.exm_ok (F.sd.fact 81 rfl)
theorem HX.ex_BadBells_BadBells (F : HX K mg) : PySem.W.exmOne K (.ref (He.ga K "BadBells")) (.ref (He.ga K "BadBells")) = some true := by
  obtain ⟨h, X, G⟩ := F.nm
  exact He.exm_ok (F.sd.fact 82 rfl)
theorem HX.gc_BadBells (F : HX K mg) : mg "BadBells" = some (.ref (He.ga K "BadBells")) := by
  obtain ⟨h, X, G⟩ := F.nm
  exact He.glo_ok X G (F.sd.fact 59 rfl)
theorem HX.g_bool (F : HX K mg) : mg "bool" = none := by
  obtain ⟨h, X, G⟩ := F.nm
  exact He.free_ok X G (F.sd.fact 84 rfl)
theorem HX.g_str (F : HX K mg) : mg "str" = none := by
  obtain ⟨h, X, G⟩ := F.nm
  exact He.free_ok X G (F.sd.fact 85 rfl)
end
end TL
set_option Elab.async false
set_option linter.all false
set_option maxRecDepth 100000
set_option maxHeartbeats 4000000
/-! JN0: words for the joining. -/
namespace TL
open PySem PySem.Spec PyProof.Rows L2
theorem liftNo {K : PySem.W.Frag} {vs : List V} {H : Hp} {Q : VK} {E : XK} (z : liftSp K (SPA 0) vs H Q E) : False := by
  obtain ⟨b, N0, g, ds, _, _, _, _, _, q⟩ := z
  exact q
theorem ss_no {c : C} {X : Cx} {body : List Stmt} : PSst c X body (fun _ _ _ _ => False) := ⟨fun ex ok => ⟨fun pins s σ H D I ⟨N, ρ, g, TD, R, q, F⟩ => q.elim⟩⟩
theorem CalD.mono {P : Program} {w : World} {K : PySem.W.Frag} {mg : Str → Option Value} {base : Heap} {j k n : Nat} {x : Str} {SP : TSp} (F : CalD P w K mg base j x n SP) (h : j ≤ k) : CalD P w K mg base k x n SP := by
  obtain ⟨f, fd, ps, a, b, c, d, e⟩ := F.ex
  exact ⟨F.ok, f, fd, ps, a, b.mono h, c, d, e⟩
theorem xok_no {k : Nat} {P : Program} {w : World} {K : PySem.W.Frag} {mg : Str → Option Value} {base : Heap} {N : List Str} {qual : Str} {scope : Scope} {f : Addr} {cdv : Value} {A : Around} {outer : List Env} {s : Shared} {H : Hp} {E : XK} {c : C} (hK : c.b.K = K) (hk : Room k (A.deeper (envOfC qual scope s.heap.objs.size f cdv))) :
    XOk (cxOf (L2.CX P w) P w K mg base N qual scope f cdv A outer s H E) c noX := by
  refine ⟨Takes.imp (takes_of rfl rfl rfl rfl) fun cls d σ H' q => ?_, passes_of rfl, hK.symm, ?_⟩
  · obtain ⟨N', ρ, g, cn, ns, ds, dd, fs, R, e1, e2, e3, e4, e5, e6⟩ := q
    exact e6.elim
  · have := hk.un
    show (A.deeper _).units + 66 < cLine
    omega
/-- the store's addresses -/
theorem ents_of {b : B} {N : Addr → Prop} {H : Hp} : ∀ {es : List (Int × Int)} {vs : List V}, Reps b N H (es.map entD) vs → ∃ ls : List Addr, vs = ls.map V.ref ∧ ls.length = es.length ∧ ∀ e ∈ ls, ¬ b.Γ e ∧ ∃ x y, H e = some (.lst [.int x, .int y])
  | [], vs, h => by cases (show vs = [] from h); exact ⟨[], rfl, rfl, fun e he => (nomatch he)⟩
  | e :: es, vs, h => by
    obtain ⟨v, r, rfl, h1, h2⟩ := h
    obtain ⟨ls, rfl, hl, ha⟩ := ents_of h2
    obtain ⟨q, us, rfl, hg, _, hq, hr⟩ := h1
    obtain ⟨u1, r1, rfl, e1, hr⟩ := hr
    obtain ⟨u2, r2, rfl, e2, hr⟩ := hr
    cases (show r2 = [] from hr)
    cases (show u1 = .int e.1 from e1)
    cases (show u2 = .int e.2 from e2)
    exact ⟨q :: ls, rfl, by simp [hl], fun x hx => (List.mem_cons.mp hx).elim (fun z => by rw [z]; exact ⟨hg, _, _, hq⟩) (ha x)⟩
theorem store_of {b : B} {N : Addr → Prop} {H : Hp} {es : List (Int × Int)} {seed : Int} {v : V} (h : RepB b N H (storeD es seed) v) : ∃ (p0 p1 : Addr) (ls : List Addr), v = .ref p0 ∧ H p0 = some (.lst [.ref p1, .int 0, .int 0, .int seed]) ∧ H p1 = some (.lst (ls.map V.ref)) ∧ ls.length = es.length ∧ ∀ e ∈ ls, ∃ x y, H e = some (.lst [.int x, .int y]) := by
  obtain ⟨p0, vs, rfl, _, h0, hr⟩ := h
  obtain ⟨u1, r1, rfl, e1, hr⟩ := hr
  obtain ⟨u2, r2, rfl, e2, hr⟩ := hr
  obtain ⟨u3, r3, rfl, e3, hr⟩ := hr
  obtain ⟨u4, r4, rfl, e4, hr⟩ := hr
  cases (show r4 = [] from hr)
  cases (show u2 = .int 0 from e2)
  cases (show u3 = .int 0 from e3)
  cases (show u4 = .int seed from e4)
  obtain ⟨p1, vs, rfl, _, _, h1, hr⟩ := e1
  obtain ⟨ls, rfl, hl, ha⟩ := ents_of hr
  exact ⟨p0, p1, ls, rfl, h0, h1, hl, fun e he => (ha e he).2⟩
def inS (p0 p1 : Addr) (ls : List Addr) (x : Addr) : Prop := x = p0 ∨ x = p1 ∨ x ∈ ls
def valS (H : Hp) (x : Addr) : List V := match H x with
  | some (.lst vs) => vs
  | _ => []
theorem valS_of {H : Hp} {x : Addr} {vs : List V} (h : H x = some (.lst vs)) : valS H x = vs := by unfold valS; rw [h]
/-- the ground's change behind the first statement -/
theorem ground {K : PySem.W.Frag} {H H1 : Hp} {N : Addr → Prop} {p0 p1 : Addr} {ls : List Addr} {seed : Int} {σ : L2.St} {n : Nat} (hn : n ≤ 100) (h0 : H1 p0 = some (.lst [.ref p1, .int 0, .int 0, .int seed])) (h1 : H1 p1 = some (.lst (ls.map V.ref))) (hl : ls.length = n) (ha : ∀ e ∈ ls, ∃ x y, H1 e = some (.lst [.int x, .int y]))
    (hk : ∀ a o, H a = some o → H1 a = some o) (hs : σ.length = 13) (hv : σ[1]? = some (some (.ref p0))) :
    Rn (mkC (storeB K (inS p0 p1 ls)) (fun _ => False) [] H) (fun a => H1 a ≠ none) [none, some (.hnd p0), none, none, none, none, none, none, none, none, none, none, none] (valS H1) σ H1 ∧ StoreOk (storeB K (inS p0 p1 ls)) (valS H1) p0 := by
  have hin : ∀ a, inS p0 p1 ls a → H1 a = some (.lst (valS H1 a)) := fun a ga => by
    rcases ga with rfl | rfl | ga
    · rw [valS_of h0]; exact h0
    · rw [valS_of h1]; exact h1
    · obtain ⟨x, y, q⟩ := ha a ga
      rw [valS_of q]; exact q
  refine ⟨⟨hin, fun a o e _ _ => hk a o e, fun _ z => z.elim, fun a ga z => ?_, fun _ z => z, hs, fun i d e => ?_, fun i hi => (nomatch hi), fun z hz => (nomatch hz), fun z hz => (nomatch hz)⟩, storeOk_iff.mpr ⟨p1, ls, 0, 0, seed, .inl rfl, .inr (.inl rfl), valS_of h0, valS_of h1, ⟨by decide, by omega, by omega⟩, fun e he => ?_⟩⟩
  · rw [hin a ga] at z; cases z
  · have hi : i = 1 ∧ d = .hnd p0 := by
      rcases i with _ | _ | _ | _ | _ | _ | _ | _ | _ | _ | _ | _ | _ | i <;> simp at e
      exact ⟨rfl, e.symm⟩
    obtain ⟨rfl, rfl⟩ := hi
    exact ⟨_, hv, rfl⟩
  · obtain ⟨x, y, q⟩ := ha e he
    exact ⟨.inr (.inr he), x, y, valS_of q⟩
end TL
set_option Elab.async false
set_option linter.all false
set_option maxRecDepth 100000
set_option maxHeartbeats 4000000
namespace TL
open PySem PySem.Spec PyProof.Rows L2
section
variable {P : Program} {w : World} {K : PySem.W.Frag} {mg : Str → Option Value} {base : Heap}
theorem c__law_mix (F : HX K mg) : CalD P w K mg base 1 "_law_mix" 2 SP__law_mix := by
  obtain ⟨h, X, G⟩ := F.nm
  obtain ⟨fd, fD⟩ := F.sd.def_ 0 rfl
  exact calD_mk fD (He.glo_ok X G (F.sd.fact 3 rfl)) sc__law_mix ok__law_mix rfl [] rfl (fun _ _ _ _ _ _ us hl => match us, hl with | [_, _], _ => rfl) (fun cdv A outer s H E b N0 hK hn0 hr => ⟨_, p__law_mix (g_int := F.g_int) cdv A outer s H E b N0 hK hn0 hr, fun ds g Q X h => v__law_mix b ds g Q X h⟩)
theorem c__law_mixed (F : HX K mg) : CalD P w K mg base 2 "_law_mixed" 3 SP__law_mixed := by
  obtain ⟨h, X, G⟩ := F.nm
  obtain ⟨fd, fD⟩ := F.sd.def_ 1 rfl
  exact calD_mk fD (He.glo_ok X G (F.sd.fact 4 rfl)) sc__law_mixed ok__law_mixed rfl [] rfl (fun _ _ _ _ _ _ us hl => match us, hl with | [_, _, _], _ => rfl) (fun cdv A outer s H E b N0 hK hn0 hr => ⟨_, p__law_mixed (d__law_mix := c__law_mix F) (g_range := F.g_range) (g_int := F.g_int) cdv A outer s H E b N0 hK hn0 hr, fun ds g Q X h => v__law_mixed b ds g Q X h⟩)
theorem c__law_take (F : HX K mg) : CalD P w K mg base 3 "_law_take" 2 SP__law_take := by
  obtain ⟨h, X, G⟩ := F.nm
  obtain ⟨fd, fD⟩ := F.sd.def_ 2 rfl
  refine calD_mk fD (He.glo_ok X G (F.sd.fact 5 rfl)) sc__law_take ok__law_take rfl [] rfl (fun _ _ _ _ _ _ us hl => match us, hl with | [_, _], _ => rfl) (fun cdv A outer s H E b N0 hK hn0 hr => ?_)
  by_cases hb : ∃ Γ, b = storeB K Γ
  · obtain ⟨Γ, rfl⟩ := hb
    exact ⟨_, p__law_take (g_len := F.g_len) (g_range := F.g_range) (g_int := F.g_int) (d__law_mixed := c__law_mixed F) cdv A outer s H E (storeB K Γ) N0 (storeI K Γ) hK hn0 hr, fun ds g Q X h => v__law_take ds g Q X h⟩
  · exact ⟨_, ss_no, fun ds g Q X ⟨a, m, _, ⟨_, Γ, e, _⟩, _⟩ => (hb ⟨Γ, by rw [← hK]; exact e⟩).elim⟩
theorem c__law_pick (F : HX K mg) : CalD P w K mg base 4 "_law_pick" 2 SP__law_pick := by
  obtain ⟨h, X, G⟩ := F.nm
  obtain ⟨fd, fD⟩ := F.sd.def_ 3 rfl
  exact calD_mk fD (He.glo_ok X G (F.sd.fact 8 rfl)) sc__law_pick ok__law_pick rfl [] rfl (fun _ _ _ _ _ _ us hl => match us, hl with | [_, _], _ => rfl) (fun cdv A outer s H E b N0 hK hn0 hr => ⟨_, p__law_pick (g_len := F.g_len) (d__law_take := c__law_take F) cdv A outer s H E b N0 hK hn0 hr, fun ds g Q X h => v__law_pick b ds g Q X h⟩)
theorem c__law_near (F : HX K mg) : CalD P w K mg base 5 "_law_near" 3 SP__law_near := by
  obtain ⟨h, X, G⟩ := F.nm
  obtain ⟨fd, fD⟩ := F.sd.def_ 4 rfl
  exact calD_mk fD (He.glo_ok X G (F.sd.fact 9 rfl)) sc__law_near ok__law_near rfl [] rfl (fun _ _ _ _ _ _ us hl => match us, hl with | [_, _, _], _ => rfl) (fun cdv A outer s H E b N0 hK hn0 hr => ⟨_, p__law_near (d__law_take := c__law_take F) (g_max := F.g_max) (g_min := F.g_min) (d__law_pick := c__law_pick F) cdv A outer s H E b N0 hK hn0 hr, fun ds g Q X h => v__law_near b ds g Q X h⟩)
theorem c__law_letters (F : HX K mg) : CalD P w K mg base 4 "_law_letters" 1 SP__law_letters := by
  obtain ⟨h, X, G⟩ := F.nm
  obtain ⟨fd, fD⟩ := F.sd.def_ 5 rfl
  exact calD_mk fD (He.glo_ok X G (F.sd.fact 11 rfl)) sc__law_letters ok__law_letters rfl [1] rfl (fun _ _ _ _ _ _ us hl => match us, hl with | [_], _ => rfl) (fun cdv A outer s H E b N0 hK hn0 hr => ⟨_, p__law_letters (g_list := F.g_list) (d__law_take := c__law_take F) (g_range := F.g_range) (g_len := F.g_len) cdv A outer s H E b N0 hK hn0 hr, fun ds g Q X h => v__law_letters b ds g Q X h⟩)
theorem c__law_wheel (F : HX K mg) : CalD P w K mg base 6 "_law_wheel" 2 SP__law_wheel := by
  obtain ⟨h, X, G⟩ := F.nm
  obtain ⟨fd, fD⟩ := F.sd.def_ 6 rfl
  exact calD_mk fD (He.glo_ok X G (F.sd.fact 13 rfl)) sc__law_wheel ok__law_wheel rfl [5, 7] rfl (fun _ _ _ _ _ _ us hl => match us, hl with | [_, _], _ => rfl) (fun cdv A outer s H E b N0 hK hn0 hr => ⟨_, p__law_wheel (d__law_letters := c__law_letters F) (d__law_near := c__law_near F) (d__law_take := c__law_take F) (g_range := F.g_range) (g_len := F.g_len) (g_int := F.g_int) (g_tuple := F.g_tuple) cdv A outer s H E b N0 hK hn0 hr, fun ds g Q X h => v__law_wheel b ds g Q X h⟩)
theorem c__law_tones (F : HX K mg) : CalD P w K mg base 5 "_law_tones" 2 SP__law_tones := by
  obtain ⟨h, X, G⟩ := F.nm
  obtain ⟨fd, fD⟩ := F.sd.def_ 7 rfl
  exact calD_mk fD (He.glo_ok X G (F.sd.fact 14 rfl)) sc__law_tones ok__law_tones rfl [3] rfl (fun _ _ _ _ _ _ us hl => match us, hl with | [_, _], _ => rfl) (fun cdv A outer s H E b N0 hK hn0 hr => ⟨_, p__law_tones (g_range := F.g_range) (d__law_take := c__law_take F) (g_int := F.g_int) (g_tuple := F.g_tuple) (d__law_pick := c__law_pick F) cdv A outer s H E b N0 hK hn0 hr, fun ds g Q X h => v__law_tones b ds g Q X h⟩)
theorem c__law_delayed (F : HX K mg) : CalD P w K mg base 1 "_law_delayed" 2 SP__law_delayed := by
  obtain ⟨h, X, G⟩ := F.nm
  obtain ⟨fd, fD⟩ := F.sd.def_ 8 rfl
  exact calD_mk fD (He.glo_ok X G (F.sd.fact 15 rfl)) sc__law_delayed ok__law_delayed rfl [] rfl (fun _ _ _ _ _ _ us hl => match us, hl with | [_, _], _ => rfl) (fun cdv A outer s H E b N0 hK hn0 hr => ⟨_, p__law_delayed (g_len := F.g_len) (g_range := F.g_range) (g_int := F.g_int) (g_tuple := F.g_tuple) cdv A outer s H E b N0 hK hn0 hr, fun ds g Q X h => v__law_delayed b ds g Q X h⟩)
theorem c__law_bent_tone (F : HX K mg) : CalD P w K mg base 5 "_law_bent_tone" 2 SP__law_bent_tone := by
  obtain ⟨h, X, G⟩ := F.nm
  obtain ⟨fd, fD⟩ := F.sd.def_ 9 rfl
  exact calD_mk fD (He.glo_ok X G (F.sd.fact 17 rfl)) sc__law_bent_tone ok__law_bent_tone rfl [] rfl (fun _ _ _ _ _ _ us hl => match us, hl with | [_, _], _ => rfl) (fun cdv A outer s H E b N0 hK hn0 hr => ⟨_, p__law_bent_tone (g_len := F.g_len) (d__law_take := c__law_take F) (d__law_pick := c__law_pick F) (g_int := F.g_int) (g_sorted := F.g_sorted) (g_tuple := F.g_tuple) cdv A outer s H E b N0 hK hn0 hr, fun ds g Q X h => v__law_bent_tone b ds g Q X h⟩)
theorem c__law_chimes (F : HX K mg) : CalD P w K mg base 7 "_law_chimes" 1 SP__law_chimes := by
  obtain ⟨h, X, G⟩ := F.nm
  obtain ⟨fd, fD⟩ := F.sd.def_ 10 rfl
  exact calD_mk fD (He.glo_ok X G (F.sd.fact 18 rfl)) sc__law_chimes ok__law_chimes rfl [5] rfl (fun _ _ _ _ _ _ us hl => match us, hl with | [_], _ => rfl) (fun cdv A outer s H E b N0 hK hn0 hr => ⟨_, p__law_chimes (d__law_near := c__law_near F) (d__law_pick := c__law_pick F) (d__law_wheel := c__law_wheel F) (g_range := F.g_range) (d__law_tones := c__law_tones F) (d__law_take := c__law_take F) (d__law_delayed := c__law_delayed F) (d__law_bent_tone := c__law_bent_tone F) (g_tuple := F.g_tuple) cdv A outer s H E b N0 hK hn0 hr, fun ds g Q X h => v__law_chimes b ds g Q X h⟩)
theorem c__law_twinned (F : HX K mg) : CalD P w K mg base 4 "_law_twinned" 2 SP__law_twinned := by
  obtain ⟨h, X, G⟩ := F.nm
  obtain ⟨fd, fD⟩ := F.sd.def_ 11 rfl
  exact calD_mk fD (He.glo_ok X G (F.sd.fact 19 rfl)) sc__law_twinned ok__law_twinned rfl [2, 10] rfl (fun _ _ _ _ _ _ us hl => match us, hl with | [_, _], _ => rfl) (fun cdv A outer s H E b N0 hK hn0 hr => ⟨_, p__law_twinned (g_list := F.g_list) (g_len := F.g_len) (d__law_take := c__law_take F) (g_range := F.g_range) (g_int := F.g_int) (g_tuple := F.g_tuple) cdv A outer s H E b N0 hK hn0 hr, fun ds g Q X h => v__law_twinned b ds g Q X h⟩)
theorem c__law_other (F : HX K mg) : CalD P w K mg base 7 "_law_other" 4 SP__law_other := by
  obtain ⟨h, X, G⟩ := F.nm
  obtain ⟨fd, fD⟩ := F.sd.def_ 12 rfl
  exact calD_mk fD (He.glo_ok X G (F.sd.fact 20 rfl)) sc__law_other ok__law_other rfl [6] rfl (fun _ _ _ _ _ _ us hl => match us, hl with | [_, _, _, _], _ => rfl) (fun cdv A outer s H E b N0 hK hn0 hr => ⟨_, p__law_other (d__law_take := c__law_take F) (d__law_twinned := c__law_twinned F) (g_list := F.g_list) (g_len := F.g_len) (d__law_wheel := c__law_wheel F) (g_tuple := F.g_tuple) (d__law_tones := c__law_tones F) (g_int := F.g_int) (d__law_bent_tone := c__law_bent_tone F) cdv A outer s H E b N0 hK hn0 hr, fun ds g Q X h => v__law_other b ds g Q X h⟩)
theorem c__law_deep (F : HX K mg) : CalD P w K mg base 5 "_law_deep" 1 SP__law_deep := by
  obtain ⟨h, X, G⟩ := F.nm
  obtain ⟨fd, fD⟩ := F.sd.def_ 13 rfl
  exact calD_mk fD (He.glo_ok X G (F.sd.fact 21 rfl)) sc__law_deep ok__law_deep rfl [3, 5] rfl (fun _ _ _ _ _ _ us hl => match us, hl with | [_], _ => rfl) (fun cdv A outer s H E b N0 hK hn0 hr => ⟨_, p__law_deep (d__law_letters := c__law_letters F) (d__law_take := c__law_take F) (g_range := F.g_range) (g_int := F.g_int) (g_len := F.g_len) (g_tuple := F.g_tuple) (d__law_delayed := c__law_delayed F) cdv A outer s H E b N0 hK hn0 hr, fun ds g Q X h => v__law_deep b ds g Q X h⟩)
theorem c__law_two (F : HX K mg) : CalD P w K mg base 8 "_law_two" 1 SP__law_two := by
  obtain ⟨h, X, G⟩ := F.nm
  obtain ⟨fd, fD⟩ := F.sd.def_ 14 rfl
  exact calD_mk fD (He.glo_ok X G (F.sd.fact 22 rfl)) sc__law_two ok__law_two rfl [] rfl (fun _ _ _ _ _ _ us hl => match us, hl with | [_], _ => rfl) (fun cdv A outer s H E b N0 hK hn0 hr => ⟨_, p__law_two (d__law_chimes := c__law_chimes F) (d__law_other := c__law_other F) (d__law_take := c__law_take F) (d__law_deep := c__law_deep F) (d__law_letters := c__law_letters F) (d__law_pick := c__law_pick F) (g_len := F.g_len) (g_tuple := F.g_tuple) (g_int := F.g_int) cdv A outer s H E b N0 hK hn0 hr, fun ds g Q X h => v__law_two b ds g Q X h⟩)
theorem c__law_bells_in (F : HX K mg) : CalD P w K mg base 4 "_law_bells_in" 1 SP__law_bells_in := by
  obtain ⟨h, X, G⟩ := F.nm
  obtain ⟨fd, fD⟩ := F.sd.def_ 15 rfl
  exact calD_mk fD (He.glo_ok X G (F.sd.fact 23 rfl)) sc__law_bells_in ok__law_bells_in rfl [] rfl (fun _ _ _ _ _ _ us hl => match us, hl with | [_], _ => rfl) (fun cdv A outer s H E b N0 hK hn0 hr => ⟨_, p__law_bells_in (d__law_take := c__law_take F) cdv A outer s H E b N0 hK hn0 hr, fun ds g Q X h => v__law_bells_in b ds g Q X h⟩)
theorem c__law_handed (F : HX K mg) : CalD P w K mg base 4 "_law_handed" 2 SP__law_handed := by
  obtain ⟨h, X, G⟩ := F.nm
  obtain ⟨fd, fD⟩ := F.sd.def_ 16 rfl
  exact calD_mk fD (He.glo_ok X G (F.sd.fact 24 rfl)) sc__law_handed ok__law_handed rfl [] rfl (fun _ _ _ _ _ _ us hl => match us, hl with | [_, _], _ => rfl) (fun cdv A outer s H E b N0 hK hn0 hr => ⟨_, p__law_handed (d__law_take := c__law_take F) (g_list := F.g_list) (g_tuple := F.g_tuple) cdv A outer s H E b N0 hK hn0 hr, fun ds g Q X h => v__law_handed b ds g Q X h⟩)
theorem c_are_letters (F : HX K mg) : CalD P w K mg base 1 "are_letters" 1 SP_are_letters := by
  obtain ⟨h, X, G⟩ := F.nm
  obtain ⟨fd, fD⟩ := F.sd.def_ 17 rfl
  exact calD_mk fD (He.glo_ok X G (F.sd.fact 28 rfl)) sc_are_letters ok_are_letters rfl [] rfl (fun _ _ _ _ _ _ us hl => match us, hl with | [_], _ => rfl) (fun cdv A outer s H E b N0 hK hn0 hr => ⟨_, p_are_letters (g_all := F.g_all) cdv A outer s H E b N0 hK hn0 hr, fun ds g Q X h => v_are_letters b ds g Q X h⟩)
theorem c_is_entry (F : HX K mg) : CalD P w K mg base 1 "is_entry" 2 SP_is_entry := by
  obtain ⟨h, X, G⟩ := F.nm
  obtain ⟨fd, fD⟩ := F.sd.def_ 18 rfl
  exact calD_mk fD (He.glo_ok X G (F.sd.fact 33 rfl)) sc_is_entry ok_is_entry rfl [] rfl (fun _ _ _ _ _ _ us hl => match us, hl with | [_, _], _ => rfl) (fun cdv A outer s H E b N0 hK hn0 hr => ⟨_, p_is_entry (g_LAST_TUNE := F.g_LAST_TUNE) (g_MOST_VERSES := F.g_MOST_VERSES) cdv A outer s H E b N0 hK hn0 hr, fun ds g Q X h => v_is_entry b ds g Q X h⟩)
theorem c_check_changer (F : HX K mg) : CalD P w K mg base 3 "check_changer" 2 SP_check_changer := by
  obtain ⟨h, X, G⟩ := F.nm
  obtain ⟨fd, fD⟩ := F.sd.def_ 19 rfl
  exact calD_mk fD (He.glo_ok X G (F.sd.fact 34 rfl)) sc_check_changer ok_check_changer rfl [] rfl (fun _ _ _ _ _ _ us hl => match us, hl with | [_, _], _ => rfl) (fun cdv A outer s H E b N0 hK hn0 hr => ⟨_, p_check_changer (g_len := F.g_len) (g_MOST_LETTERS := F.g_MOST_LETTERS) (g_MOST_STATES := F.g_MOST_STATES) (d_are_letters := c_are_letters F) (g_set := F.g_set) (g_enumerate := F.g_enumerate) (d_is_entry := c_is_entry F) cdv A outer s H E b N0 hK hn0 hr, fun ds g Q X h => v_check_changer b ds g Q X h⟩)
theorem c_Changer_init (F : HX K mg) : MkD P w K mg base 4 "Changer" 2 SP_Changer := by
  obtain ⟨h, X, G⟩ := F.nm
  obtain ⟨fd, fD⟩ := F.sd.def_ 20 rfl
  exact ⟨ok_Changer, He.mkr_ok (F.sd.fact 39 rfl), fd, _, fn_okI fD sc_Changer_init ok_Changer rfl [0] rfl (fun cdv A outer s H E b N0 y hK hn0 hr => ⟨_, p_Changer_init (d_check_changer := c_check_changer F) (f_Changer_letters := F.f_Changer_letters) (g_tuple := F.g_tuple) (f_Changer_states := F.f_Changer_states) cdv A outer s H E b N0 y hK hn0 hr, fun ds g Q X h => v_Changer y b ds g Q X h⟩), He.glo_ok X G (F.sd.fact 38 rfl), fD.bindsN (fun _ _ _ _ _ _ us hl => match us, hl with | [_, _, _], _ => rfl)⟩
theorem c__law_make_changer (F : HX K mg) : CalD P w K mg base 6 "_law_make_changer" 3 SP__law_make_changer := by
  obtain ⟨h, X, G⟩ := F.nm
  obtain ⟨fd, fD⟩ := F.sd.def_ 21 rfl
  exact calD_mk fD (He.glo_ok X G (F.sd.fact 40 rfl)) sc__law_make_changer ok__law_make_changer rfl [] rfl (fun _ _ _ _ _ _ us hl => match us, hl with | [_, _, _], _ => rfl) (fun cdv A outer s H E b N0 hK hn0 hr => ⟨_, p__law_make_changer (d__law_handed := c__law_handed F) (m_Changer := c_Changer_init F) cdv A outer s H E b N0 hK hn0 hr, fun ds g Q X h => v__law_make_changer b ds g Q X h⟩)
theorem c_is_good_slot (F : HX K mg) : CalD P w K mg base 1 "is_good_slot" 1 SP_is_good_slot := by
  obtain ⟨h, X, G⟩ := F.nm
  obtain ⟨fd, fD⟩ := F.sd.def_ 22 rfl
  exact calD_mk fD (He.glo_ok X G (F.sd.fact 44 rfl)) sc_is_good_slot ok_is_good_slot rfl [] rfl (fun _ _ _ _ _ _ us hl => match us, hl with | [_], _ => rfl) (fun cdv A outer s H E b N0 hK hn0 hr => ⟨_, p_is_good_slot (g_enumerate := F.g_enumerate) (g_MARKS := F.g_MARKS) cdv A outer s H E b N0 hK hn0 hr, fun ds g Q X h => v_is_good_slot b ds g Q X h⟩)
theorem c_check_score (F : HX K mg) : CalD P w K mg base 3 "check_score" 1 SP_check_score := by
  obtain ⟨h, X, G⟩ := F.nm
  obtain ⟨fd, fD⟩ := F.sd.def_ 23 rfl
  exact calD_mk fD (He.glo_ok X G (F.sd.fact 45 rfl)) sc_check_score ok_check_score rfl [] rfl (fun _ _ _ _ _ _ us hl => match us, hl with | [_], _ => rfl) (fun cdv A outer s H E b N0 hK hn0 hr => ⟨_, p_check_score (g_len := F.g_len) (g_GREATEST_SIZE := F.g_GREATEST_SIZE) (g_enumerate := F.g_enumerate) (d_is_good_slot := c_is_good_slot F) cdv A outer s H E b N0 hK hn0 hr, fun ds g Q X h => v_check_score b ds g Q X h⟩)
theorem c_is_good_score (F : HX K mg) : CalD P w K mg base 4 "is_good_score" 1 SP_is_good_score := by
  obtain ⟨h, X, G⟩ := F.nm
  obtain ⟨fd, fD⟩ := F.sd.def_ 24 rfl
  exact calD_mk fD (He.glo_ok X G (F.sd.fact 46 rfl)) sc_is_good_score ok_is_good_score rfl [] rfl (fun _ _ _ _ _ _ us hl => match us, hl with | [_], _ => rfl) (fun cdv A outer s H E b N0 hK hn0 hr => ⟨_, p_is_good_score (d_check_score := c_check_score F) cdv A outer s H E b N0 hK hn0 hr, fun ds g Q X h => v_is_good_score b ds g Q X h⟩)
theorem c_are_good_scores (F : HX K mg) : CalD P w K mg base 5 "are_good_scores" 1 SP_are_good_scores := by
  obtain ⟨h, X, G⟩ := F.nm
  obtain ⟨fd, fD⟩ := F.sd.def_ 25 rfl
  exact calD_mk fD (He.glo_ok X G (F.sd.fact 47 rfl)) sc_are_good_scores ok_are_good_scores rfl [] rfl (fun _ _ _ _ _ _ us hl => match us, hl with | [_], _ => rfl) (fun cdv A outer s H E b N0 hK hn0 hr => ⟨_, p_are_good_scores (g_len := F.g_len) (g_MOST_SCORES := F.g_MOST_SCORES) (d_is_good_score := c_is_good_score F) (g_all := F.g_all) cdv A outer s H E b N0 hK hn0 hr, fun ds g Q X h => v_are_good_scores b ds g Q X h⟩)
theorem c_names_missing_tune (F : HX K mg) : CalD P w K mg base 1 "names_missing_tune" 2 SP_names_missing_tune := by
  obtain ⟨h, X, G⟩ := F.nm
  obtain ⟨fd, fD⟩ := F.sd.def_ 26 rfl
  exact calD_mk fD (He.glo_ok X G (F.sd.fact 49 rfl)) sc_names_missing_tune ok_names_missing_tune rfl [] rfl (fun _ _ _ _ _ _ us hl => match us, hl with | [_, _], _ => rfl) (fun cdv A outer s H E b N0 hK hn0 hr => ⟨_, p_names_missing_tune (f_Changer_states := F.f_Changer_states) (g_any := F.g_any) cdv A outer s H E b N0 hK hn0 hr, fun ds g Q X h => v_names_missing_tune b ds g Q X h⟩)
theorem c_Carillon_init (F : HX K mg) : MkD P w K mg base 6 "Carillon" 2 SP_Carillon := by
  obtain ⟨h, X, G⟩ := F.nm
  obtain ⟨fd, fD⟩ := F.sd.def_ 27 rfl
  exact ⟨ok_Carillon, He.mkr_ok (F.sd.fact 55 rfl), fd, _, fn_okI fD sc_Carillon_init ok_Carillon rfl [0] rfl (fun cdv A outer s H E b N0 y hK hn0 hr => ⟨_, p_Carillon_init (g_tuple := F.g_tuple) (d_are_good_scores := c_are_good_scores F) (g_len := F.g_len) (d_names_missing_tune := c_names_missing_tune F) (f_Carillon_changer := F.f_Carillon_changer) (f_Carillon_scores := F.f_Carillon_scores) (f_Carillon_size := F.f_Carillon_size) cdv A outer s H E b N0 y hK hn0 hr, fun ds g Q X h => v_Carillon y b ds g Q X h⟩), He.glo_ok X G (F.sd.fact 54 rfl), fD.bindsN (fun _ _ _ _ _ _ us hl => match us, hl with | [_, _, _], _ => rfl)⟩
theorem c__law_make_carillon (F : HX K mg) : CalD P w K mg base 8 "_law_make_carillon" 4 SP__law_make_carillon := by
  obtain ⟨h, X, G⟩ := F.nm
  obtain ⟨fd, fD⟩ := F.sd.def_ 28 rfl
  exact calD_mk fD (He.glo_ok X G (F.sd.fact 56 rfl)) sc__law_make_carillon ok__law_make_carillon rfl [] rfl (fun _ _ _ _ _ _ us hl => match us, hl with | [_, _, _, _], _ => rfl) (fun cdv A outer s H E b N0 hK hn0 hr => ⟨_, p__law_make_carillon (d__law_handed := c__law_handed F) (d__law_make_changer := c__law_make_changer F) (m_Carillon := c_Carillon_init F) cdv A outer s H E b N0 hK hn0 hr, fun ds g Q X h => v__law_make_carillon b ds g Q X h⟩)
theorem c__law_fault (F : HX K mg) : CalD P w K mg base 1 "_law_fault" 3 SP__law_fault := by
  obtain ⟨h, X, G⟩ := F.nm
  obtain ⟨fd, fD⟩ := F.sd.def_ 29 rfl
  exact calD_mk fD (He.glo_ok X G (F.sd.fact 57 rfl)) sc__law_fault ok__law_fault rfl [] rfl (fun _ _ _ _ _ _ us hl => match us, hl with | [_, _, _], _ => rfl) (fun cdv A outer s H E b N0 hK hn0 hr => ⟨_, p__law_fault (g_list := F.g_list) (g_len := F.g_len) cdv A outer s H E b N0 hK hn0 hr, fun ds g Q X h => v__law_fault b ds g Q X h⟩)
theorem c_BadBells_init (F : HX K mg) : XD P w K mg base "BadBells" "text" := by
  obtain ⟨h, X, G⟩ := F.nm
  obtain ⟨fd, fD⟩ := F.sd.def_ 30 rfl
  exact ⟨F.xc_BadBells, fd, fn_xinit fD sc_BadBells_init F.xc_BadBells (by decide) (by decide) (by decide +kernel), He.glo_ok X G (F.sd.fact 59 rfl), fD.bindsN (fun _ _ _ _ _ _ us hl => match us, hl with | [_, _], _ => rfl)⟩
theorem c_check_bells (F : HX K mg) : CalD P w K mg base 3 "check_bells" 1 SP_check_bells := by
  obtain ⟨h, X, G⟩ := F.nm
  obtain ⟨fd, fD⟩ := F.sd.def_ 31 rfl
  exact calD_mk fD (He.glo_ok X G (F.sd.fact 60 rfl)) sc_check_bells ok_check_bells rfl [] rfl (fun _ _ _ _ _ _ us hl => match us, hl with | [_], _ => rfl) (fun cdv A outer s H E b N0 hK hn0 hr => ⟨_, p_check_bells (g_BELLS := F.g_BELLS) (x_BadBells := c_BadBells_init F) cdv A outer s H E b N0 hK hn0 hr, fun ds g Q X h => v_check_bells b ds g Q X h⟩)
theorem c_Unlike_init (F : HX K mg) : XD P w K mg base "Unlike" "field" := by
  obtain ⟨h, X, G⟩ := F.nm
  obtain ⟨fd, fD⟩ := F.sd.def_ 32 rfl
  exact ⟨F.xc_Unlike, fd, fn_xinit fD sc_Unlike_init F.xc_Unlike (by decide) (by decide) (by decide +kernel), He.glo_ok X G (F.sd.fact 61 rfl), fD.bindsN (fun _ _ _ _ _ _ us hl => match us, hl with | [_, _], _ => rfl)⟩
theorem c_check_pair (F : HX K mg) : CalD P w K mg base 4 "check_pair" 3 SP_check_pair := by
  obtain ⟨h, X, G⟩ := F.nm
  obtain ⟨fd, fD⟩ := F.sd.def_ 33 rfl
  exact calD_mk fD (He.glo_ok X G (F.sd.fact 62 rfl)) sc_check_pair ok_check_pair rfl [] rfl (fun _ _ _ _ _ _ us hl => match us, hl with | [_, _, _], _ => rfl) (fun cdv A outer s H E b N0 hK hn0 hr => ⟨_, p_check_pair (d_check_bells := c_check_bells F) (f_Carillon_changer := F.f_Carillon_changer) (f_Changer_letters := F.f_Changer_letters) (x_Unlike := c_Unlike_init F) (f_Carillon_size := F.f_Carillon_size) cdv A outer s H E b N0 hK hn0 hr, fun ds g Q X h => v_check_pair b ds g Q X h⟩)
theorem c_Changer_len (F : HX K mg) : LenD P w K mg base 1 "Changer" SP_Changer_len := by
  obtain ⟨h, X, G⟩ := F.nm
  obtain ⟨fd, fD⟩ := F.sd.def_ 34 rfl
  exact ⟨ok_Changer_len, He.cls_ok (F.sd.fact 35 rfl), _, fd, _, rfl, fn_okT fD sc_Changer_len ok_Changer_len [] rfl (fun cdv A outer s H E b N0 hK hn0 hr => ⟨_, p_Changer_len (f_Changer_states := F.f_Changer_states) (g_len := F.g_len) cdv A outer s H E b N0 hK hn0 hr, fun ds g Q X h => v_Changer_len b ds g Q X h⟩), (He.meth_ok (F.sd.fact 63 rfl)).at_, of_decide_eq_true F.ty_Changer_lenB, fD.bindsN (fun _ _ _ _ _ _ us hl => match us, hl with | [_], _ => rfl)⟩
theorem c_heard_slots (F : HX K mg) : CalD P w K mg base 4 "heard_slots" 2 SP_heard_slots := by
  obtain ⟨h, X, G⟩ := F.nm
  obtain ⟨fd, fD⟩ := F.sd.def_ 35 rfl
  exact calD_mk fD (He.glo_ok X G (F.sd.fact 64 rfl)) sc_heard_slots ok_heard_slots rfl [] rfl (fun _ _ _ _ _ _ us hl => match us, hl with | [_, _], _ => rfl) (fun cdv A outer s H E b N0 hK hn0 hr => ⟨_, p_heard_slots (d_check_bells := c_check_bells F) (g_tuple := F.g_tuple) cdv A outer s H E b N0 hK hn0 hr, fun ds g Q X h => v_heard_slots b ds g Q X h⟩)
theorem c_heard_list (F : HX K mg) : CalK P w K mg base 5 "heard_list" 2 "verses" SP_heard_list := by
  obtain ⟨h, X, G⟩ := F.nm
  obtain ⟨fd, fD⟩ := F.sd.def_ 36 rfl
  have kb : KBn K fd ["score", "bells", "verses"] 2 ["verses"] (fun us ws => us ++ ws) (fun vs zs => vs ++ zs) := by
    obtain ⟨oc, od, dV, kV, doc, pm, an, cdv, ct, osl, rfl, lk, hcd, hD, hK⟩ := fD.ex
    rcases hD with ⟨_, rfl⟩ | ⟨e, _⟩
    · exact ⟨fun s us ws X l1 l2 => .of_eq (match us, l1, ws, l2 with | [_, _], _, [_], _ => rfl), fun r1 r2 => r1.append r2⟩
    · exact absurd rfl e
  exact ⟨ok_heard_list, _, fd, _, rfl, fn_okT fD sc_heard_list ok_heard_list [5] rfl (fun cdv A outer s H E b N0 hK hn0 hr => ⟨_, p_heard_list (d_heard_slots := c_heard_slots F) (g_len := F.g_len) (g_range := F.g_range) (g_enumerate := F.g_enumerate) (g_tuple := F.g_tuple) cdv A outer s H E b N0 hK hn0 hr, fun ds g Q X h => v_heard_list b ds g Q X h⟩), He.glo_ok X G (F.sd.fact 65 rfl), fD.kp, kb⟩
theorem c_hour_list (F : HX K mg) : CalD P w K mg base 6 "hour_list" 4 SP_hour_list := by
  obtain ⟨h, X, G⟩ := F.nm
  obtain ⟨fd, fD⟩ := F.sd.def_ 37 rfl
  exact calD_mk fD (He.glo_ok X G (F.sd.fact 66 rfl)) sc_hour_list ok_hour_list rfl [] rfl (fun _ _ _ _ _ _ us hl => match us, hl with | [_, _, _, _], _ => rfl) (fun cdv A outer s H E b N0 hK hn0 hr => ⟨_, p_hour_list (f_Carillon_scores := F.f_Carillon_scores) (k_heard_list := c_heard_list F) cdv A outer s H E b N0 hK hn0 hr, fun ds g Q X h => v_hour_list b ds g Q X h⟩)
theorem c_answer_rows (F : HX K mg) : CalD P w K mg base 7 "answer_rows" 2 SP_answer_rows := by
  obtain ⟨h, X, G⟩ := F.nm
  obtain ⟨fd, fD⟩ := F.sd.def_ 38 rfl
  exact calD_mk fD (He.glo_ok X G (F.sd.fact 67 rfl)) sc_answer_rows ok_answer_rows rfl [2] rfl (fun _ _ _ _ _ _ us hl => match us, hl with | [_, _], _ => rfl) (fun cdv A outer s H E b N0 hK hn0 hr => ⟨_, p_answer_rows (f_Carillon_changer := F.f_Carillon_changer) (f_Changer_states := F.f_Changer_states) (d_hour_list := c_hour_list F) (g_tuple := F.g_tuple) cdv A outer s H E b N0 hK hn0 hr, fun ds g Q X h => v_answer_rows b ds g Q X h⟩)
theorem c_joint_rows (F : HX K mg) : CalD P w K mg base 8 "joint_rows" 3 SP_joint_rows := by
  obtain ⟨h, X, G⟩ := F.nm
  obtain ⟨fd, fD⟩ := F.sd.def_ 39 rfl
  exact calD_mk fD (He.glo_ok X G (F.sd.fact 68 rfl)) sc_joint_rows ok_joint_rows rfl [4] rfl (fun _ _ _ _ _ _ us hl => match us, hl with | [_, _, _], _ => rfl) (fun cdv A outer s H E b N0 hK hn0 hr => ⟨_, p_joint_rows (f_Carillon_changer := F.f_Carillon_changer) (l_Changer := c_Changer_len F) (g_len := F.g_len) (d_answer_rows := c_answer_rows F) (g_list := F.g_list) (g_tuple := F.g_tuple) cdv A outer s H E b N0 hK hn0 hr, fun ds g Q X h => v_joint_rows b ds g Q X h⟩)
theorem c_numbered (F : HX K mg) : CalD P w K mg base 1 "numbered" 1 SP_numbered := by
  obtain ⟨h, X, G⟩ := F.nm
  obtain ⟨fd, fD⟩ := F.sd.def_ 40 rfl
  exact calD_mk fD (He.glo_ok X G (F.sd.fact 69 rfl)) sc_numbered ok_numbered rfl [1] rfl (fun _ _ _ _ _ _ us hl => match us, hl with | [_], _ => rfl) (fun cdv A outer s H E b N0 hK hn0 hr => ⟨_, p_numbered (g_len := F.g_len) (g_tuple := F.g_tuple) cdv A outer s H E b N0 hK hn0 hr, fun ds g Q X h => v_numbered w b ds g Q X h⟩)
theorem c_refined (F : HX K mg) : CalD P w K mg base 2 "refined" 2 SP_refined := by
  obtain ⟨h, X, G⟩ := F.nm
  obtain ⟨fd, fD⟩ := F.sd.def_ 41 rfl
  exact calD_mk fD (He.glo_ok X G (F.sd.fact 70 rfl)) sc_refined ok_refined rfl [2] rfl (fun _ _ _ _ _ _ us hl => match us, hl with | [_, _], _ => rfl) (fun cdv A outer s H E b N0 hK hn0 hr => ⟨_, p_refined (g_enumerate := F.g_enumerate) (g_tuple := F.g_tuple) (d_numbered := c_numbered F) cdv A outer s H E b N0 hK hn0 hr, fun ds g Q X h => v_refined b ds g Q X h⟩)
theorem c_row_partitions (F : HX K mg) : CalD P w K mg base 3 "row_partitions" 1 SP_row_partitions := by
  obtain ⟨h, X, G⟩ := F.nm
  obtain ⟨fd, fD⟩ := F.sd.def_ 42 rfl
  exact calD_mk fD (He.glo_ok X G (F.sd.fact 71 rfl)) sc_row_partitions ok_row_partitions rfl [1] rfl (fun _ _ _ _ _ _ us hl => match us, hl with | [_], _ => rfl) (fun cdv A outer s H E b N0 hK hn0 hr => ⟨_, p_row_partitions (g_tuple := F.g_tuple) (d_numbered := c_numbered F) (d_refined := c_refined F) cdv A outer s H E b N0 hK hn0 hr, fun ds g Q X h => v_row_partitions b ds g Q X h⟩)
theorem c_first_difference (F : HX K mg) : CalD P w K mg base 1 "first_difference" 2 SP_first_difference := by
  obtain ⟨h, X, G⟩ := F.nm
  obtain ⟨fd, fD⟩ := F.sd.def_ 43 rfl
  exact calD_mk fD (He.glo_ok X G (F.sd.fact 72 rfl)) sc_first_difference ok_first_difference rfl [] rfl (fun _ _ _ _ _ _ us hl => match us, hl with | [_, _], _ => rfl) (fun cdv A outer s H E b N0 hK hn0 hr => ⟨_, p_first_difference  cdv A outer s H E b N0 hK hn0 hr, fun ds g Q X h => v_first_difference b ds g Q X h⟩)
theorem c_row_word (F : HX K mg) : CalD P w K mg base 2 "row_word" 5 SP_row_word := by
  obtain ⟨h, X, G⟩ := F.nm
  obtain ⟨fd, fD⟩ := F.sd.def_ 44 rfl
  exact calD_mk fD (He.glo_ok X G (F.sd.fact 73 rfl)) sc_row_word ok_row_word rfl [] rfl (fun _ _ _ _ _ _ us hl => match us, hl with | [_, _, _, _, _], _ => rfl) (fun cdv A outer s H E b N0 hK hn0 hr => ⟨_, p_row_word (d_first_difference := c_first_difference F) cdv A outer s H E b N0 hK hn0 hr, fun ds g Q X h => v_row_word b ds g Q X h⟩)
theorem c_alike (F : HX K mg) : CalD P w K mg base 9 "alike" 3 SP_alike := by
  obtain ⟨h, X, G⟩ := F.nm
  obtain ⟨fd, fD⟩ := F.sd.def_ 45 rfl
  exact calD_mk fD (He.glo_ok X G (F.sd.fact 74 rfl)) sc_alike ok_alike rfl [] rfl (fun _ _ _ _ _ _ us hl => match us, hl with | [_, _, _], _ => rfl) (fun cdv A outer s H E b N0 hK hn0 hr => ⟨_, p_alike (d_check_pair := c_check_pair F) (d_joint_rows := c_joint_rows F) (d_row_partitions := c_row_partitions F) (f_Carillon_changer := F.f_Carillon_changer) (l_Changer := c_Changer_len F) (g_len := F.g_len) (f_Changer_letters := F.f_Changer_letters) (d_row_word := c_row_word F) cdv A outer s H E b N0 hK hn0 hr, fun ds g Q X h => v_alike b ds g Q X h⟩)
theorem c_alike_bells (F : HX K mg) : CalD P w K mg base 10 "alike_bells" 3 SP_alike_bells := by
  obtain ⟨h, X, G⟩ := F.nm
  obtain ⟨fd, fD⟩ := F.sd.def_ 46 rfl
  exact calD_mk fD (He.glo_ok X G (F.sd.fact 76 rfl)) sc_alike_bells ok_alike_bells rfl [] rfl (fun _ _ _ _ _ _ us hl => match us, hl with | [_, _, _], _ => rfl) (fun cdv A outer s H E b N0 hK hn0 hr => ⟨_, p_alike_bells (d_check_pair := c_check_pair F) (d_alike := c_alike F) cdv A outer s H E b N0 hK hn0 hr, fun ds g Q X h => v_alike_bells b ds g Q X h⟩)
theorem c__law_told (F : HX K mg) : CalD P w K mg base 11 "_law_told" 3 SP__law_told := by
  obtain ⟨h, X, G⟩ := F.nm
  obtain ⟨fd, fD⟩ := F.sd.def_ 47 rfl
  exact calD_mk fD (He.glo_ok X G (F.sd.fact 83 rfl)) sc__law_told ok__law_told rfl [] rfl (fun _ _ _ _ _ _ us hl => match us, hl with | [_, _, _], _ => rfl) (fun cdv A outer s H E b N0 hK hn0 hr => ⟨_, p__law_told (d_alike := c_alike F) (g_isinstance := F.g_isinstance) (g_tuple := F.g_tuple) (g_len := F.g_len) (d_alike_bells := c_alike_bells F) (xc_BadBells := F.xc_BadBells) (ki_BadBells_DrumError := F.ki_BadBells_DrumError) (gc_DrumError := F.gc_DrumError) (ki_BadBells_BadLetter := F.ki_BadBells_BadLetter) (gc_BadLetter := F.gc_BadLetter) (xc_Unlike := F.xc_Unlike) (ki_Unlike_DrumError := F.ki_Unlike_DrumError) (ex_Unlike_Unlike := F.ex_Unlike_Unlike) (ex_BadBells_Unlike := F.ex_BadBells_Unlike) (gc_Unlike := F.gc_Unlike) (ex_Unlike_BadBells := F.ex_Unlike_BadBells) (ex_BadBells_BadBells := F.ex_BadBells_BadBells) (gc_BadBells := F.gc_BadBells) cdv A outer s H E b N0 hK hn0 hr, fun ds g Q X h => v__law_told b ds g Q X h⟩)
theorem c__law_alike0 (F : HX K mg) : CalD P w K mg base 0 "_law_alike" 2 (SPA 0) := by
  obtain ⟨h, X, G⟩ := F.nm
  obtain ⟨fd, fD⟩ := F.sd.def_ 48 rfl
  exact ⟨ok_SPA 0, _, fd, ["one", "two"], rfl, ⟨fun vs H Q E z => (liftNo z).elim, fun A outer s H us1 us vs Q E hr he hb hv z => (liftNo z).elim⟩, He.glo_ok X G (F.sd.fact 86 rfl), fD.kp, fD.bindsN (fun _ _ _ _ _ _ us hl => match us, hl with | [_, _], _ => rfl)⟩
theorem c__law_alikeS (F : HX K mg) {k n : Nat} (d : CalD P w K mg base k "_law_alike" 2 (SPA n)) : CalD P w K mg base (k + 1) "_law_alike" 2 (SPA (n + 1)) := by
  obtain ⟨h, X, G⟩ := F.nm
  obtain ⟨fd, fD⟩ := F.sd.def_ 48 rfl
  exact calD_mk fD (He.glo_ok X G (F.sd.fact 86 rfl)) sc__law_alike (ok_SPA (n + 1)) rfl [] rfl (fun _ _ _ _ _ _ us hl => match us, hl with | [_, _], _ => rfl) (fun cdv A outer s H E b N0 hK hn0 hr => ⟨_, p__law_alike (d__law_alike := d) (g_isinstance := F.g_isinstance) (g_tuple := F.g_tuple) (g_len := F.g_len) (g_range := F.g_range) (g_bool := F.g_bool) (g_int := F.g_int) (g_str := F.g_str) cdv A outer s H E b N0 hK hn0 hr, fun ds g Q X h => v__law_alike n b ds g Q X h⟩)
theorem c__law_alike (F : HX K mg) : CalD P w K mg base 2 "_law_alike" 2 (SPA 2) := c__law_alikeS F (c__law_alikeS F (c__law_alike0 F))
theorem c__law_heard (F : HX K mg) : CalD P w K mg base 1 "_law_heard" 2 SP__law_heard := by
  obtain ⟨h, X, G⟩ := F.nm
  obtain ⟨fd, fD⟩ := F.sd.def_ 49 rfl
  exact calD_mk fD (He.glo_ok X G (F.sd.fact 87 rfl)) sc__law_heard ok__law_heard rfl [2] rfl (fun _ _ _ _ _ _ us hl => match us, hl with | [_, _], _ => rfl) (fun cdv A outer s H E b N0 hK hn0 hr => ⟨_, p__law_heard (g_len := F.g_len) (g_tuple := F.g_tuple) cdv A outer s H E b N0 hK hn0 hr, fun ds g Q X h => v__law_heard b ds g Q X h⟩)
theorem c__law_heard_list (F : HX K mg) : CalD P w K mg base 2 "_law_heard_list" 3 SP__law_heard_list := by
  obtain ⟨h, X, G⟩ := F.nm
  obtain ⟨fd, fD⟩ := F.sd.def_ 50 rfl
  exact calD_mk fD (He.glo_ok X G (F.sd.fact 88 rfl)) sc__law_heard_list ok__law_heard_list rfl [4] rfl (fun _ _ _ _ _ _ us hl => match us, hl with | [_, _, _], _ => rfl) (fun cdv A outer s H E b N0 hK hn0 hr => ⟨_, p__law_heard_list (d__law_heard := c__law_heard F) (g_len := F.g_len) (g_range := F.g_range) (g_int := F.g_int) (g_tuple := F.g_tuple) cdv A outer s H E b N0 hK hn0 hr, fun ds g Q X h => v__law_heard_list b ds g Q X h⟩)
theorem c__law_joint (F : HX K mg) : CalD P w K mg base 3 "_law_joint" 3 SP__law_joint := by
  obtain ⟨h, X, G⟩ := F.nm
  obtain ⟨fd, fD⟩ := F.sd.def_ 51 rfl
  exact calD_mk fD (He.glo_ok X G (F.sd.fact 89 rfl)) sc__law_joint ok__law_joint rfl [3, 7] rfl (fun _ _ _ _ _ _ us hl => match us, hl with | [_, _, _], _ => rfl) (fun cdv A outer s H E b N0 hK hn0 hr => ⟨_, p__law_joint (g_len := F.g_len) (d__law_heard_list := c__law_heard_list F) cdv A outer s H E b N0 hK hn0 hr, fun ds g Q X h => v__law_joint b ds g Q X h⟩)
theorem c__law_telling (F : HX K mg) : CalD P w K mg base 1 "_law_telling" 3 SP__law_telling := by
  obtain ⟨h, X, G⟩ := F.nm
  obtain ⟨fd, fD⟩ := F.sd.def_ 52 rfl
  exact calD_mk fD (He.glo_ok X G (F.sd.fact 90 rfl)) sc__law_telling ok__law_telling rfl [3, 4] rfl (fun _ _ _ _ _ _ us hl => match us, hl with | [_, _, _], _ => rfl) (fun cdv A outer s H E b N0 hK hn0 hr => ⟨_, p__law_telling (g_range := F.g_range) (g_len := F.g_len) cdv A outer s H E b N0 hK hn0 hr, fun ds g Q X h => v__law_telling w b ds g Q X h⟩)
theorem c__law_store (F : HX K mg) (a : Addr) (xs : List Int) (u : Option HO) (hx : xs.length ≤ 63) : CalD P w K mg base 2 "_law_store" 1 (SP__law_store a xs u) := by
  obtain ⟨h, X, G⟩ := F.nm
  obtain ⟨fd, fD⟩ := F.sd.def_ 53 rfl
  refine calD_mk fD (He.glo_ok X G (F.sd.fact 91 rfl)) sc__law_store (ok__law_store a xs u) rfl [2] rfl (fun _ _ _ _ _ _ us hl => match us, hl with | [_], _ => rfl) (fun cdv A outer s H E b N0 hK hn0 hr => ?_)
  by_cases hb : b = scB K a (xs.map V.int) u
  · subst hb
    exact ⟨_, p__law_store (g_len := F.g_len) (g_int := F.g_int) (d__law_mix := c__law_mix F) cdv A outer s H E (scB K a (xs.map V.int) u) N0 (scI K a (xs.map V.int) u) hK hn0 hr, fun ds g Q X h => v__law_store K a xs u hx ds g Q X h⟩
  · exact ⟨_, ss_no, fun ds g Q X ⟨⟨e, _⟩, _⟩ => (hb (by rw [hK] at e; exact e)).elim⟩
end
end TL
set_option Elab.async false
set_option linter.all false
set_option maxRecDepth 100000
set_option maxHeartbeats 4000000
namespace TL
open PySem PySem.Spec PyProof.Rows L2
def spLaw (K : PySem.W.Frag) : Sp := fun vs H Q _ => ∃ (a : Addr) (xs : List Int), vs = [.ref a] ∧ xs.length ≤ 63 ∧ SqL K H a (xs.map V.int) ∧ ∀ H', Q (.bl true) H'
section
variable {P : Program} {w : World} {K : PySem.W.Frag} {mg : Str → Option Value} {base : Heap}
abbrev NL : List Str := ["script", "store", "one", "two", "bells", "pair", "parts", "due", "told", "bell", "row", "words", "letters_in"]
theorem law_ok (F : HX K mg) : ∃ fd : FuncData, (∀ (s : Shared) (v : Value), BindsTo s fd ⟨[v], []⟩ [("script", v)]) ∧ ∀ base : Heap, FnOk P w K mg base (L2.CX P w) 12 (He.ga K "law") fd ["script"] (spLaw K) := by
  obtain ⟨h, X, G⟩ := F.nm
  obtain ⟨fd, fD⟩ := F.sd.def_ 54 rfl
  refine ⟨fd, fun s v => FunD.bindsA fD (ps := ["script"]) (fun _ _ _ _ _ _ us hl => match us, hl with | [_], _ => rfl) s [v] rfl, fun base => fD.ok sc_law (fun vs H Q E ⟨a, xs, e, _⟩ => by rw [e]; rfl) fun cdv A outer s H vs Q E hr hs => ?_⟩
  obtain ⟨a, xs, rfl, hx, hS, hQ⟩ := hs
  obtain ⟨u, hu⟩ : ∃ u : Option HO, (∃ o, u = some o ∧ H a = some o ∧ (o = .lst (xs.map V.int) ∨ ∃ z, o = .frz z (.lst (xs.map V.int)))) ∨ (u = none ∧ ∀ H', SqL K H' a (xs.map V.int)) := by
    rcases hS with (q | ⟨z, q⟩) | q
    · exact ⟨_, .inl ⟨_, rfl, q, .inl rfl⟩⟩
    · exact ⟨_, .inl ⟨_, rfl, q, .inr ⟨z, rfl⟩⟩⟩
    · exact ⟨none, .inr ⟨rfl, fun _ => .inr q⟩⟩
  have nd := sc_law.nd
  have cs := c__law_store (P := P) (w := w) (base := base) F a xs u hx
  have h1 : PSt (mkC (scB K a (xs.map V.int) u) (fun x => H x ≠ none) [] H) (cxOf (L2.CX P w) P w K mg base NL "law" (defScope (top 75)) (He.ga K "law") cdv A outer s H E) ((defBody (top 75)).headD (.Pass ⟨0, 0, 0, 0⟩)) (tSetT 1 (tCallT (SP__law_store a xs u) [] (tConsT (tVarT 0) tNilT))) :=
    st_set 1 ((et_callD cs (hr.mono (by decide)) (at_cons (et_var 0) (at_nil))).tor) (hN := nd)
  have h2 : PSs (cxOf (L2.CX P w) P w K mg base NL "law" (defScope (top 75)) (He.ga K "law") cdv A outer s H E) ((defBody (top 75)).drop 1) (fun D σ H1 => ∃ b, b.K = K ∧ liftS (mkC b (fun _ => False) [] H) (t_law_rest SP__law_two SP__law_bells_in SP__law_pick SP__law_take SP__law_make_carillon SP__law_fault SP__law_told (SPA 2) SP__law_joint SP__law_telling SP_alike) noX D σ H1) :=
    ⟨fun pins s1 σ H1 D I ⟨b, hK, q⟩ => ((p_law_rest (f := He.ga K "law") (d__law_two := c__law_two F) (d__law_bells_in := c__law_bells_in F) (d__law_pick := c__law_pick F) (d__law_take := c__law_take F) (d__law_make_carillon := c__law_make_carillon F) (d__law_fault := c__law_fault F) (d__law_told := c__law_told F) (d__law_alike := (c__law_alike F).mono (by decide)) (g_len := F.g_len) (d__law_joint := c__law_joint F) (d__law_telling := c__law_telling F) (g_int := F.g_int) (d_alike := c_alike F) cdv A outer s H E b (fun _ => False) hK (fun _ z => z.elim) hr).run noX (xok_no hK hr)).run pins s1 σ H1 D I q⟩
  refine ⟨_, pss_cons (h1.run noX (xok_no rfl hr)) h2, ?_⟩
  have R0 := rn_start (b := scB K a (xs.map V.int) u) (N0 := fun x => H x ≠ none) (M := []) (H := H) (g := ()) (N := NL) (ds := [.hnd a]) (vs := [.ref a]) hu (fun x gx z => by
    obtain ⟨rfl, hp⟩ := gx
    rcases hu with ⟨o, _, r, _⟩ | ⟨n, _⟩
    · rw [r] at z; cases z
    · exact hp n) (fun _ z => z) (.cons rfl .nil) (fun i hi => (nomatch hi))
  refine ⟨_, _, (), { nx := fun ρ _ => ∃ es seed, es.length = xs.length ∧ ρ = [some (.hnd a), some (storeD es seed), none, none, none, none, none, none, none, none, none, none, none], rt := fun _ _ => False }, R0, ?_, ?_⟩
  · exact ⟨_, rfl, ⟨rfl, rfl⟩, fun es seed hl => ⟨es, seed, hl, rfl⟩⟩
  · refine ⟨fun N ρ g σ H1 R ⟨es, seed, hl, eρ⟩ => ?_, fun _ _ _ _ _ _ q => q.elim, fun _ _ _ _ _ _ q => q.elim, fun _ _ _ _ _ _ _ _ _ q => q.elim⟩
    subst eρ
    obtain ⟨v, hv, rv⟩ := R.slot 1 _ rfl
    obtain ⟨p0, p1, ls, rfl, e0, e1, el, ea⟩ := store_of rv
    have hk : ∀ x o, H x = some o → H1 x = some o := fun x o e => by
      by_cases gx : (scB K a (xs.map V.int) u).Γ x
      · obtain ⟨rfl, hp⟩ := gx
        rcases R.gh with ⟨o', eu, r, _⟩ | ⟨n, _⟩
        · rcases hu with ⟨o2, eu2, r2, _⟩ | ⟨n, _⟩
          · rw [eu] at eu2
            injection eu2 with eu2
            subst eu2
            rw [r2] at e
            rw [r, e]
          · exact absurd n hp
        · exact absurd n hp
      · exact R.keep x o e gx fun z => z
    have hn : es.length ≤ 100 := by omega
    obtain ⟨R1, so⟩ := ground (K := K) (H := H) (N := N) hn e0 e1 el ea hk (by rw [R.len]; rfl) hv
    exact ⟨storeB K (inS p0 p1 ls), rfl, _, _, _, _, R1, v_law_rest _ _ p0 so (fun d _ => d = .bl true) (fun _ _ _ _ => False) (fun _ => rfl), fits_of _ fun d g' e v H' _ _ _ r => by
      have e : d = .bl true := e
      subst e
      have ev : v = .bl true := r.1
      subst ev
      exact hQ H'⟩
end
end TL
set_option Elab.async false
set_option linter.all false
set_option maxRecDepth 100000
set_option maxHeartbeats 0
namespace TL
open PySem PySem.Spec PyProof.Rows L2
abbrev R : PySem.W.OpenRow := PySem.W.OpenLaw.row PySem.Challenge.rw_drumturns_k83_bells_that_are_alike
abbrev hk : PySem.W.Hook := He.hookX 5 faA fnA [] [] exA
def ob (s : PySem.W.SharedT) : He.AlX := He.obsX 5 faA fnA [] [] exA (HandSHeadRun.getT s)
theorem ob_eq (s : PySem.W.SharedT) : ob s = hk.obs s.abs := He.obsX_eq (HandSHeadRun.getT_eq s)
theorem run (w : World) : HandSHeadRun.RunEq R (PySem.W.view R.prog [75]) hk ob 40000 loose w := by
  intro os
  kernel_rfl
end TL
set_option Elab.async false
set_option linter.all false
set_option maxRecDepth 100000
set_option maxHeartbeats 0
namespace TL
open PySem PySem.Spec PyProof.Rows L2
/-- a law's end: what may be let out hangs on the world -/
theorem endW {l : PySem.W.OpenLaw} {n k : Nat} {q : Program} {loose : List Str} {XP : (Str → Option Value) → Heap → Prop} {YP : World → Heap → Prop} {d : DefRec} {CX : World → CXT} {x : Str}
    (hn : l.most = some n) (hn2 : n ≤ sizeLine) (hdf : d.params.defaults = []) (hr : Room k callerA)
    (F : ∀ (w : World) (mg : Str → Option Value) (fa : Addr) (h : Heap), YP w h → h.Ns mainGlobals mg → mg d.name = some (.ref fa) → ∃ (K : PySem.W.Frag) (fd : FuncData) (sp : Sp), K.In h ∧ (∀ (s : Shared) (u : Value), BindsTo s fd ⟨[u], []⟩ [(x, u)]) ∧ (∀ (H : Hp) (a : Addr) (ns : List Int), ns.length ≤ n → Only H → SqL K H a (ns.map V.int) → sp [.ref a] H (fun v _ => v = .bl true) fun _ _ _ => False) ∧ ∀ base : Heap, K.In base → base.Ns mainGlobals mg → FnOk l.prog w K mg base (CX w) k fa fd [x] sp)
    (hCX : ∀ (w : World) (H : Hp) (s : Shared) (e : Value) (s' : Shared), CX w [] H s (fun _ _ _ => False) e s' → False) : PySem.W.WalkO q loose XP YP l.row.toRowW d [] (fun f vs => PySem.call f vs) :=
  Att.attach_call hn hdf fun w s0 s1 mg mb fa o pm cd doc a vs ns GG YY ho hd hcd hmg hobj hints hlen hg => by
    obtain ⟨K, fd, sp, KX, hb, hsp, hF⟩ := F w mg fa _ YY GG.T.g hmg
    exact law_call KX GG.T.g GG.T.b GG.T.builtins GG.T.nolimit hg hobj hints (Nat.le_trans hlen hn2) hr hF hb (fun H hO hS => hsp H a ns hlen hO hS) (fun H e s' => hCX w H s1 e s')
end TL
open PySem PySem.W PySem.Calls PyProof.Rows
theorem PySem.Challenge.cw_drumturns_k83_bells_that_are_alike_holds : PySem.Challenge.rw_drumturns_k83_bells_that_are_alike.Holds := by
  w_on; o_law
  refine HandSHeadRun.head_any (r := TL.R) (q := view TL.R.prog [75]) (H := TL.hk) (ob := TL.ob) (M := 40000) (loose := TL.loose) (d := HandSHeadRun.topDef TL.R.prog 75) (kwd := []) TL.ob_eq (by kernel_rfl) (fun s => by kernel_rfl) TL.run (by kernel_rfl) (by kernel_rfl) (by kernel_rfl) (by rfl) (by first | assumption | decide +kernel) (by decide +kernel) ⟨rfl, rfl, rfl, rfl, rfl, by decide +kernel⟩ ?hw ?hc
  case hw => w_witness2
  case hc =>
    refine TL.endW (l := PySem.Challenge.rw_drumturns_k83_bells_that_are_alike) (n := 63) (k := 12) (x := "script") (CX := fun w => L2.CX (PySem.Challenge.rw_drumturns_k83_bells_that_are_alike).prog w) rfl (by decide) (by kernel_rfl) ⟨rfl, by decide, by decide⟩ ?F (fun w H s e s' hX => ?_)
    · intro w mg fa h Y G hmg0
      obtain ⟨K, KX, c⟩ := Y
      have hmg : mg ("law" : PySem.Str) = some (.ref fa) := by
        have e : (HandSHeadRun.topDef TL.R.prog 75).name = ("law" : PySem.Str) := by kernel_rfl
        rw [← e]
        exact hmg0
      have F : TL.HX K mg := ⟨c.t.d, c.more, h, KX, G⟩
      have e := hmg.symm.trans (He.glo_ok KX G (F.sd.fact 92 rfl))
      cases e
      obtain ⟨fd, hb, hF⟩ := TL.law_ok (P := (PySem.Challenge.rw_drumturns_k83_bells_that_are_alike).prog) (w := w) F
      exact ⟨K, fd, TL.spLaw K, KX, hb, fun H a ns hl _ hS => ⟨a, ns, rfl, hl, hS, fun _ => rfl⟩, fun base _ _ => hF base⟩
    · obtain ⟨_, _, _, _, _, _, _, _, _, _, _, _, z⟩ := hX
      exact z
